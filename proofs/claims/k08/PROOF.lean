import PyProof.Rows.All
import HandS.ForMost
import HandS.Walk
import HandS.TupAny
import HandS.TupMul
import HandS.Deep
import HandS.Style
import HandS.Conv
import HandS.IsInst
import HandS.WordsDict
import HandS.Strs
import KE.DataFind
import HandS.NoneIn
import HandS.Zip
import KE.GoesEnum
import HandS.WordsExc
import HandS.Defaults
import KE.KStateDown
import Lean
import HandS.Ends
import HandS.More
import HandS.Head0
import HandS.Head1
import HandS.Head2
import HandS.HeadEnd
import HandS.HeadHook1
import HandS.HeadHook2
import HandS.HeadHook4
import PySem.Challenge.RW_namelesshall_k08_whole_one_leading_behin
set_option Elab.async false
set_option linter.all false
set_option maxRecDepth 100000
set_option maxHeartbeats 1000000
set_option autoImplicit false
namespace NH
open PySem

/-- a value: data that nobody changes any more, or an object of the store -/
inductive D where
  | non
  | bl (b : Bool)
  | int (i : Int)
  | str (x : Str)
  | tup (xs : List D)
  | lst (xs : List D)
  | klst (xs : List D)
  | ref (n : Nat)

/-- an object that may be changed -/
inductive O where
  | lst (xs : List D)
  | dk (kvs : List (L2.Key × D))
  | dt (kvs : List (List Int × D))
  | ins (c : Str) (fs : List (Str × D))

/-- what a name's slot holds: nothing, a value, an object of its own -/
inductive Sl where
  | no
  | val (d : D)
  | own (o : O)

structure Sta where
  σ : List Sl
  st : List O

/-- what an expression comes to: a value, the object of a slot, a new object -/
inductive R where
  | val (d : D)
  | slot (i : Nat)
  | new (o : O)

inductive Out (α : Type) where
  | ok (a : α) (s : Sta)
  | exc (x : D) (s : Sta)
  | bad

abbrev M (α : Type) := Sta → Out α
def M.bind {α β : Type} (m : M α) (f : α → M β) : M β := fun s =>
  match m s with
  | .ok a s' => f a s'
  | .exc x s' => .exc x s'
  | .bad => .bad
def M.pure {α : Type} (a : α) : M α := fun s => .ok a s
instance : Monad M := { pure := M.pure, bind := M.bind }
def bad {α : Type} : M α := fun _ => .bad

/-- what stands behind a result: a value that is no list, or an object -/
inductive Ct where
  | d (d : D)
  | o (o : O)

def ctOf (st : List O) : D → Option Ct
  | .lst xs => some (.o (.lst xs))
  | .ref n => (st[n]?).map Ct.o
  | d => some (.d d)
def deref (s : Sta) : R → Option Ct
  | .val d => ctOf s.st d
  | .slot i => match s.σ[i]? with
    | some (.own o) => some (.o o)
    | some (.val d) => ctOf s.st d
    | _ => none
  | .new o => some (.o o)

/-- a result as a value: its list is not changed any more -/
def frz : R → M D
  | .val d => fun s => .ok d s
  | .slot i => fun s => match s.σ[i]? with
    | some (.own (.lst xs)) => .ok (.lst xs) { s with σ := s.σ.set i (.val (.lst xs)) }
    | some (.val d) => .ok d s
    | _ => .bad
  | .new (.lst xs) => fun s => .ok (.lst xs) s
  | .new _ => fun _ => .bad

mutual
/-- == of data -/
def D.eqb : D → D → Bool
  | .non, .non => true
  | .bl a, .bl b => a == b
  | .bl a, .int j => (if a then 1 else 0) == j
  | .int i, .bl b => i == (if b then 1 else 0)
  | .int i, .int j => i == j
  | .str x, .str y => x == y
  | .lst xs, .lst ys => D.eqbs xs ys
  | .tup xs, .tup ys => D.eqbs xs ys
  | _, _ => false
def D.eqbs : List D → List D → Bool
  | [], [] => true
  | x :: xs, y :: ys => D.eqb x y && D.eqbs xs ys
  | _, _ => false
end
mutual
def D.py : D → PyData
  | .non => .none
  | .bl b => .bool b
  | .int i => .int i
  | .str x => .str x
  | .tup xs => .tuple (D.pys xs)
  | .lst xs => .list (D.pys xs)
  | .klst xs => .none
  | .ref _ => .none
def D.pys : List D → List PyData
  | [] => []
  | x :: xs => D.py x :: D.pys xs
end
mutual
/-- no object of the store within -/
def D.pure : D → Bool
  | .ref _ => false
  | .klst _ => false
  | .tup xs => D.pures xs
  | .lst xs => D.pures xs
  | _ => true
def D.pures : List D → Bool
  | [] => true
  | x :: xs => D.pure x && D.pures xs
end
end NH

set_option Elab.async false
set_option linter.all false
set_option maxRecDepth 100000
set_option maxHeartbeats 1000000
set_option autoImplicit false
namespace NH
open PySem L2

/-- where the objects of the store stand -/
abbrev Gh := List Addr

/-- a list that nobody changes -/
def FzL (K : PySem.W.Frag) (H : Hp) (a : Addr) (xs : List V) : Prop :=
  (∃ o, H a = some (.frz o (.lst xs))) ∨
    ∃ (o : Obj) (its : Array Value) (n : Nat), K.lookup a = some o ∧ o.cls = .type "list" ∧ o.dict = none ∧ o.data = .seq its n ∧ its.size ≤ sizeLine ∧ Vals xs its.toList
theorem FzL.sq {K : PySem.W.Frag} {H : Hp} {a : Addr} {xs : List V} (h : FzL K H a xs) : SqL K H a xs := by
  rcases h with ⟨o, h⟩ | h
  · exact .inl (.inr ⟨o, h⟩)
  · exact .inr h

/-- a tuple of which the object is known -/
def ExT (H : Hp) (a : Addr) (xs : List V) : Prop := ∃ o, H a = some (.frz o (.tup xs)) ∧ o.dict = none
theorem ExT.sq {K : PySem.W.Frag} {H : Hp} {a : Addr} {xs : List V} (h : ExT H a xs) : SqT K H a xs := let ⟨o, h, _⟩ := h; .inl (.inr ⟨o, h⟩)
/-- the entries of a dict whose keys are tuples of ints -/
def entI (x : List Int × Addr × Value) : DictEntry := ⟨reduceHash (Builtin.Tuple.tupleHashOf (x.1.map hashInt)), .ref x.2.1, x.2.2⟩
def dtP (a : Addr) (xs : List (List Int × Addr × Value)) : Heap → Prop := fun h => ∃ o es ep, h.get? a = some o ∧ o.ExactDict ∧ o.data = .dict es ep ∧ es.toList = xs.map entI ∧ (xs.map (·.1)).Nodup

mutual
def Rep (K : PySem.W.Frag) (g : Gh) (H : Hp) : D → V → Prop
  | .non, v => v = .non
  | .bl b, v => v = .bl b
  | .int i, v => v = .int i
  | .str x, v => v = .str x
  | .tup ds, v => ∃ a vs, v = .ref a ∧ ExT H a vs ∧ RepAll K g H ds vs
  | .lst ds, v => ∃ a vs, v = .ref a ∧ (∃ o, H a = some (.frz o (.lst vs))) ∧ RepAll K g H ds vs
  | .klst ds, v => ∃ a vs, v = .ref a ∧ FzL K H a vs ∧ RepAll K g H ds vs
  | .ref n, v => ∃ a, v = .ref a ∧ g[n]? = some a
def RepAll (K : PySem.W.Frag) (g : Gh) (H : Hp) : List D → List V → Prop
  | [], vs => vs = []
  | d :: ds, vs => ∃ v r, vs = v :: r ∧ Rep K g H d v ∧ RepAll K g H ds r
end
def RepKV {κ : Type} (K : PySem.W.Frag) (g : Gh) (H : Hp) : List (κ × D) → List (κ × V) → Prop
  | [], vs => vs = []
  | kd :: ds, vs => ∃ v r, vs = (kd.1, v) :: r ∧ Rep K g H kd.2 v ∧ RepKV K g H ds r
def RepKT (K : PySem.W.Frag) (g : Gh) (H : Hp) : List (List Int × D) → List (List Int × Addr × Value) → Prop
  | [], vs => vs = []
  | kd :: ds, vs => ∃ b u v r, vs = (kd.1, b, u) :: r ∧ ExT H b (kd.1.map V.int) ∧ RelV v u ∧ Rep K g H kd.2 v ∧ RepKT K g H ds r
/-- an object that stands at a -/
def RepO (K : PySem.W.Frag) (g : Gh) (H : Hp) : O → Addr → Prop
  | .lst ds, a => ∃ vs, H a = some (.lst vs) ∧ RepAll K g H ds vs
  | .dk kvs, a => ∃ ks, H a = some (.dK ks) ∧ RepKV K g H kvs ks
  | .dt kvs, a => ∃ xs, H a = some (.ext (dtP a xs)) ∧ (a == sysModules) = false ∧ kvs.length ≤ sizeLine ∧ RepKT K g H kvs xs
  | .ins _ _, _ => False
/-- things that are changed -/
def MutO : HO → Prop
  | .lst _ => True
  | .dK _ => True
  | .dT _ => True
  | .ins _ _ _ => True
  | .ext _ => True
  | _ => False
theorem RepO.mut {K : PySem.W.Frag} {g : Gh} {H : Hp} {o : O} {a : Addr} (h : RepO K g H o a) : ∃ u, H a = some u ∧ MutO u := by
  cases o with
  | lst ds => obtain ⟨vs, e, _⟩ := h; exact ⟨_, e, trivial⟩
  | dk ds => obtain ⟨vs, e, _⟩ := h; exact ⟨_, e, trivial⟩
  | dt ds => obtain ⟨vs, e, _⟩ := h; exact ⟨_, e, trivial⟩
  | ins c fs => exact h.elim

/-- the object of slot i stands at a -/
def OwnAt (S : Sta) (σ : St) (i : Nat) (a : Addr) : Prop := (∃ o, S.σ[i]? = some (.own o)) ∧ σ[i]? = some (some (.ref a))

structure Rel (K : PySem.W.Frag) (g : Gh) (S : Sta) (σ : St) (H : Hp) : Prop where
  len : S.σ.length = σ.length
  val : ∀ (i : Nat) (d : D), S.σ[i]? = some (.val d) → ∃ v, σ[i]? = some (some v) ∧ Rep K g H d v
  own : ∀ (i : Nat) (o : O), S.σ[i]? = some (.own o) → ∃ a, σ[i]? = some (some (.ref a)) ∧ RepO K g H o a ∧ a ∉ g
  inj : ∀ (i j : Nat) (a : Addr), OwnAt S σ i a → OwnAt S σ j a → i = j
  st : ∀ (n : Nat) (o : O), S.st[n]? = some o → ∃ a, g[n]? = some a ∧ RepO K g H o a
  gl : S.st.length = g.length
  gn : g.Nodup

/-- what is changed between two states of one frame: the objects of the slots, those of the store, new ones -/
structure Fr (S : Sta) (σ : St) (g g' : Gh) (H H' : Hp) : Prop where
  ext : ∃ l, g' = g ++ l ∧ ∀ a ∈ l, H a = none
  keep : ∀ b o, H b = some o → b ∉ g → (∀ i, ¬ OwnAt S σ i b) → H' b = some o
  there : ∀ b, H' b = none → H b = none

/-- what an expression's result stands for; H0: the heap ahead of the expression -/
def RepR (K : PySem.W.Frag) (g : Gh) (S : Sta) (σ : St) (H0 H : Hp) : R → V → Prop
  | .val d, v => Rep K g H d v
  | .slot i, v => σ[i]? = some (some v)
  | .new o, v => ∃ a, v = .ref a ∧ RepO K g H o a ∧ H0 a = none ∧ a ∉ g ∧ ∀ i, ¬ OwnAt S σ i a

section
variable {K : PySem.W.Frag} {g g' g'' : Gh} {S S' S'' : Sta} {σ : St} {H H' H'' : Hp}

theorem Rel.noTup (r : Rel K g S σ H) {a : Addr} {u : HO} (h : H a = some u) (nm : ¬ MutO u) : a ∉ g ∧ ∀ i, ¬ OwnAt S σ i a := by
  constructor
  · intro hm
    obtain ⟨n, hn⟩ := List.getElem?_of_mem hm
    have hlt : n < S.st.length := by rw [r.gl]; exact (List.getElem?_eq_some_iff.mp hn).1
    obtain ⟨b, hb, ho⟩ := r.st n _ (List.getElem?_eq_getElem hlt)
    rw [hn] at hb; cases hb
    obtain ⟨u', e, m⟩ := ho.mut
    rw [h] at e; cases e; exact nm m
  · rintro i ⟨⟨o, ho⟩, hs⟩
    obtain ⟨b, hb, hr, _⟩ := r.own i o ho
    rw [hs] at hb; cases hb
    obtain ⟨u', e, m⟩ := hr.mut
    rw [h] at e; cases e; exact nm m

theorem Fr.get (f : Fr S σ g g' H H') {n : Nat} {a : Addr} (h : g[n]? = some a) : g'[n]? = some a := by
  obtain ⟨l, rfl, _⟩ := f.ext
  rw [List.getElem?_append_left (List.getElem?_eq_some_iff.mp h).1]; exact h

/-- what a value stands on stays -/
structure Stay (g g' : Gh) (H H' : Hp) : Prop where
  get : ∀ (n : Nat) a, g[n]? = some a → g'[n]? = some a
  tup : ∀ a vs, H a = some (.tup vs) → H' a = some (.tup vs)
  frz : ∀ a o u, H a = some (.frz o u) → H' a = some (.frz o u)
theorem Stay.refl : Stay g g H H := ⟨fun _ _ h => h, fun _ _ h => h, fun _ _ _ h => h⟩
theorem Stay.trans (a : Stay g g' H H') (b : Stay g' g'' H' H'') : Stay g g'' H H'' :=
  ⟨fun n x h => b.get n x (a.get n x h), fun x vs h => b.tup x vs (a.tup x vs h), fun x o u h => b.frz x o u (a.frz x o u h)⟩
mutual
theorem Rep.stay (s : Stay g g' H H') : ∀ (d : D) (v : V), Rep K g H d v → Rep K g' H' d v
  | .non, _, h => h
  | .bl _, _, h => h
  | .int _, _, h => h
  | .str _, _, h => h
  | .tup ds, _, h => by
    unfold Rep at h ⊢
    obtain ⟨a, vs, e, ⟨o, hh, ho⟩, r⟩ := h
    exact ⟨a, vs, e, ⟨o, s.frz _ _ _ hh, ho⟩, RepAll.stay s ds vs r⟩
  | .lst ds, _, h => by
    unfold Rep at h ⊢
    obtain ⟨a, vs, e, ⟨o, hh⟩, r⟩ := h
    exact ⟨a, vs, e, ⟨o, s.frz _ _ _ hh⟩, RepAll.stay s ds vs r⟩
  | .klst ds, _, h => by
    unfold Rep at h ⊢
    obtain ⟨a, vs, e, hh, r⟩ := h
    refine ⟨a, vs, e, ?_, RepAll.stay s ds vs r⟩
    rcases hh with ⟨o, hh⟩ | hh
    · exact .inl ⟨o, s.frz _ _ _ hh⟩
    · exact .inr hh
  | .ref n, _, h => by
    unfold Rep at h ⊢
    obtain ⟨a, e, hh⟩ := h
    exact ⟨a, e, s.get _ _ hh⟩
theorem RepAll.stay (s : Stay g g' H H') : ∀ (ds : List D) (vs : List V), RepAll K g H ds vs → RepAll K g' H' ds vs
  | [], _, h => h
  | d :: ds, vs, h => by
    unfold RepAll at h ⊢
    obtain ⟨v, r, e, h1, h2⟩ := h
    exact ⟨v, r, e, Rep.stay s d v h1, RepAll.stay s ds r h2⟩
end
theorem RepKV.stay {κ : Type} (s : Stay g g' H H') : ∀ (ds : List (κ × D)) (vs : List (κ × V)), RepKV K g H ds vs → RepKV K g' H' ds vs
  | [], _, h => h
  | d :: ds, vs, h => by
    unfold RepKV at h ⊢
    obtain ⟨v, r, e, h1, h2⟩ := h
    exact ⟨v, r, e, Rep.stay s _ v h1, RepKV.stay s ds r h2⟩
theorem RepKT.stay (s : Stay g g' H H') : ∀ (ds : List (List Int × D)) (vs : List (List Int × Addr × Value)), RepKT K g H ds vs → RepKT K g' H' ds vs
  | [], _, h => h
  | d :: ds, vs, h => by
    unfold RepKT at h ⊢
    obtain ⟨b, u, v, r, e, ⟨o, h1, ho⟩, h2, h3, h4⟩ := h
    exact ⟨b, u, v, r, e, ⟨o, s.frz _ _ _ h1, ho⟩, h2, Rep.stay s _ v h3, RepKT.stay s ds r h4⟩
theorem RepO.stay (s : Stay g g' H H') {o : O} {a : Addr} (h : RepO K g H o a) (e : H' a = H a) : RepO K g' H' o a := by
  cases o with
  | lst ds => obtain ⟨vs, h1, h2⟩ := h; exact ⟨vs, e.trans h1, h2.stay s⟩
  | dk ds => obtain ⟨vs, h1, h2⟩ := h; exact ⟨vs, e.trans h1, h2.stay s⟩
  | dt ds => obtain ⟨vs, h1, h0, hz, h2⟩ := h; exact ⟨vs, e.trans h1, h0, hz, h2.stay s⟩
  | ins c fs => exact h.elim
theorem Fr.stay (r : Rel K g S σ H) (f : Fr S σ g g' H H') : Stay g g' H H' :=
  ⟨fun _ _ h => f.get h, fun a vs h => let ⟨h1, h2⟩ := r.noTup h (fun z => z); f.keep a _ h h1 h2, fun a o u h => let ⟨h1, h2⟩ := r.noTup h (fun z => z); f.keep a _ h h1 h2⟩
theorem Fr.refl : Fr S σ g g H H := ⟨⟨[], by simp, by simp⟩, fun _ _ h _ _ => h, fun _ h => h⟩
/-- own slots are never more -/
def Less (S S' : Sta) : Prop := ∀ (i : Nat) (o : O), S'.σ[i]? = some (.own o) → ∃ o', S.σ[i]? = some (.own o')
theorem Less.refl : Less S S := fun _ o h => ⟨o, h⟩
theorem Less.trans (a : Less S S') (b : Less S' S'') : Less S S'' := fun i o h => let ⟨_, h'⟩ := b i o h; a i _ h'
theorem Less.at (l : Less S S') {i : Nat} {a : Addr} (h : OwnAt S' σ i a) : OwnAt S σ i a := let ⟨⟨o, ho⟩, e⟩ := h; ⟨l i o ho, e⟩
theorem Fr.trans (l : Less S S') (a : Fr S σ g g' H H') (b : Fr S' σ g' g'' H' H'') : Fr S σ g g'' H H'' := by
  obtain ⟨l1, e1, n1⟩ := a.ext
  obtain ⟨l2, e2, n2⟩ := b.ext
  refine ⟨⟨l1 ++ l2, by rw [e2, e1, List.append_assoc], fun x hx => ?_⟩, fun x o h hg ho => ?_, fun x h => a.there x (b.there x h)⟩
  · rcases List.mem_append.mp hx with h | h
    · exact n1 x h
    · exact a.there x (n2 x h)
  · refine b.keep x o (a.keep x o h hg ho) ?_ fun i hi => ho i (l.at hi)
    rw [e1]
    intro hm
    rcases List.mem_append.mp hm with hm | hm
    · exact hg hm
    · rw [n1 x hm] at h; cases h
end
end NH

set_option Elab.async false
set_option linter.all false
set_option maxRecDepth 100000
set_option maxHeartbeats 1000000
set_option autoImplicit false
namespace NH
open PySem L2

inductive Bop where | add | sub | mul | mod | fdiv | pow
  deriving DecidableEq
inductive Cop where | eq | ne | lt | le | gt | ge | isin | notin | isn | notn
  deriving DecidableEq
/-- built-in functions and types that are called by name -/
inductive Blt where | len | tuple | list | int | str | max2 | min2 | max1 | min1 | all | any | sum | sorted | sortset | lrange | trange | istuple | islist | isbool | islt | repr | trev | dict
  deriving DecidableEq
/-- methods of lists, dicts, texts -/
inductive Mth where | append | extend | pop0 | pop1 | index | count | join | split | replace | get | clear
  deriving DecidableEq

/-- the code of a def, without places in the text; names by slots -/
inductive C where
  | non | bl (b : Bool) | int (i : Int) | str (x : Str)
  | var (i : Nat)
  | glo (x : Str) (d : D)
  | nil | cons (e es : C)
  | tup (es : C) | lst (es : C)
  | dnew (t : Bool) | disp (t : Bool) (ks vs : C)
  | bin (op : Bop) (a b : C)
  | neg (a : C)
  | cmp (op : Cop) (a b : C)
  | cmp2 (op op' : Cop) (a b c : C)
  | boo (an : Bool) (es : C)
  | not (a : C)
  | idx (a i : C)
  | no
  | slc (a lo hi : C)
  | lc (own : List Nat) (t it ifs e : C)
  | mv (i : Nat) | mw (e : C)
  | fz (e : C) | stt (e : C)
  | call (f : Str) (es : C)
  | blt (f : Blt) (es : C)
  | mth (m : Mth) (o es : C)
  -- what is walked
  | irng (es : C) | iseq (a : C) | ienum (a : C) | izip (a b : C) | istr (a : C)
  -- targets
  | tn (i : Nat) | tw (i : Nat) | tt (ts : C) | ti (o i : C)
  -- statements
  | asg (t e : C) | par (ts es : C) | ex (e : C) | ret (e : C) | ite (c a b : C) | fr (t it b : C) | whl (n : Nat) (c b : C)

/-- an argument, what a call comes to -/
inductive Ar where | val (d : D) | own (o : O)
inductive Rt where | val (d : D) | new (o : O)
inductive CO where
  | ok (r : Rt) (outs : List O) (st : List O)
  | bad
abbrev Cal := Str → List Ar → List O → CO

inductive Fl where | nx | rt (r : R)
/-- what a walk gives: a value, a pair of values -/
inductive Itm where | v (d : D) | p (a b : D)

/-- a decision that the kernel never looks into -/
noncomputable def dc (p : Prop) : Bool := @decide p (Classical.propDecidable p)
theorem dc_iff {p : Prop} : dc p = true ↔ p := by
  unfold dc
  exact @decide_eq_true_iff p (Classical.propDecidable p)
theorem dc_eq {p : Prop} [d : Decidable p] : dc p = decide p := by
  by_cases h : p
  · rw [dc_iff.mpr h, decide_eq_true h]
  · rw [decide_eq_false h]
    cases e : dc p with
    | false => rfl
    | true => exact (h (dc_iff.mp e)).elim
/-! ### operations -/
noncomputable section
def ok1 (r : R) : M R := fun s => .ok r s
def binInt (op : Bop) (i j : Int) : Option Int :=
  match op with
  | .add => some (i + j)
  | .sub => some (i - j)
  | .mul => if dc ((-(2 ^ 64) < i ∧ i < 2 ^ 64) ∨ (-(2 ^ 64) < j ∧ j < 2 ^ 64)) = true then some (i * j) else none
  | .mod => if dc (0 < j) = true then some (i % j) else none
  | .fdiv => if dc (0 < j ∧ j < 1073741824) = true then some (i / j) else none
  | .pow => if dc (0 ≤ j ∧ j ≤ 1000000 ∧ i.natAbs < 2 ^ 64) = true then some (i ^ j.toNat) else none
def binCt (op : Bop) : Ct → Ct → Option R
  | .d (.int i), .d (.int j) => (binInt op i j).map fun k => .val (.int k)
  | .d (.str x), .d (.str y) => match op with
    | .add => if x.length + y.length ≤ sizeLine then some (.val (.str (x ++ y))) else none
    | _ => none
  | .d (.tup xs), .d (.tup ys) => match op with
    | .add => if xs.length + ys.length ≤ sizeLine then some (.val (.tup (xs ++ ys))) else none
    | _ => none
  | .o (.lst xs), .o (.lst ys) => match op with
    | .add => if xs.length + ys.length ≤ sizeLine then some (.new (.lst (xs ++ ys))) else none
    | _ => none
  | .o (.lst xs), .d (.int k) => match op with
    | .mul => if dc (-(2 ^ 63) ≤ k ∧ k < 2 ^ 63 ∧ xs.length * k.toNat ≤ sizeLine) = true then some (.new (.lst (List.replicate k.toNat xs).flatten)) else none
    | _ => none
  | _, _ => none
def liftR (o : Option R) : M R := fun s => match o with
  | some r => .ok r s
  | none => .bad
def bin (op : Bop) (x y : R) : M R := fun s =>
  match deref s x, deref s y with
  | some a, some b => liftR (binCt op a b) s
  | _, _ => .bad
/-- data that == may look at -/
def ctD : Ct → Option D
  | .d d => some d
  | .o (.lst xs) => some (.lst xs)
  | _ => none
def D.eqOk (d : D) : Bool := d.pure && SeqAt.shaped d.py
def keyOf : D → Option Key
  | .int i => some (.inl i)
  | .str x => some (.inr x)
  | _ => none
def intsOf : List D → Option (List Int)
  | [] => some []
  | .int i :: ds => (intsOf ds).map (i :: ·)
  | _ => none
def tkeyOf : D → Option (List Int)
  | .tup ds => intsOf ds
  | _ => none
def lookD {κ : Type} [DecidableEq κ] (kvs : List (κ × D)) (k : κ) : Option D := (kvs.find? fun kv => decide (kv.1 = k)).map (·.2)
def putD {κ : Type} [DecidableEq κ] (kvs : List (κ × D)) (k : κ) (v : D) : List (κ × D) :=
  if (kvs.any fun kv => decide (kv.1 = k)) = true then kvs.map (fun kv => if kv.1 = k then (kv.1, v) else kv) else kvs ++ [(k, v)]
/-- the pairs of a display -/
def dispOf : List D → Option (List (Key × D))
  | [] => some []
  | k :: v :: r => (keyOf k).bind fun k => (dispOf r).map ((k, v) :: ·)
  | _ => none
def mergeD (kvs more : List (Key × D)) : List (Key × D) := more.foldl (fun acc kv => putD acc kv.1 kv.2) kvs
def dispR (ds : List D) : Option R := (dispOf ds).bind fun kvs => if kvs.length ≤ 15 then some (.new (.dk (mergeD [] kvs))) else none
/-- x in y -/
def D.flat : D → Bool
  | .non => true
  | .bl _ => true
  | .int _ => true
  | .str _ => true
  | _ => false
def inCt (x y : Ct) : Option Bool :=
  match y with
  | .o (.lst ys) => match ctD x with
    | some d => if d.eqOk && (D.lst ys).eqOk then some (ys.any fun z => z.eqb d) else none
    | none => none
  | .d (.tup ys) => match ctD x with
    | some d => if d.flat && ys.all D.flat then some (ys.any fun z => z.eqb d) else none
    | none => none
  | .o (.dk kvs) => match x with
    | .d d => (keyOf d).map fun k => (lookD kvs k).isSome
    | _ => none
  | .o (.dt kvs) => match x with
    | .d d => (tkeyOf d).map fun k => (lookD kvs k).isSome
    | _ => none
  | .d (.str z) => match x with
    | .d (.str y) => some (!(Builtin.Str.occurrences z y 0 z.length 1).isEmpty)
    | _ => none
  | _ => none
def ltInts : List D → List D → Option Bool
  | [], [] => some false
  | [], .int _ :: _ => some true
  | .int _ :: _, [] => some false
  | .int x :: xs, .int y :: ys => if x = y then ltInts xs ys else some (decide (x < y))
  | _, _ => none
def cmpI (f : Int → Int → Bool) : Ct → Ct → Option Bool
  | .d (.int i), .d (.int j) => some (f i j)
  | _, _ => none
def ltCt (x y : Ct) : Option Bool :=
  match x, y with
  | .d (.tup xs), .d (.tup ys) => (intsOf xs).bind fun ns => (intsOf ys).map fun ms => HT.lexLt ns ms
  | x, y => cmpI (fun i j => dc (i < j)) x y
def cmpCt (op : Cop) (x y : Ct) : Option Bool :=
  match op with
  | .eq => match ctD x, ctD y with
    | some d, some e => if d.eqOk && e.eqOk then some (d.eqb e) else none
    | _, _ => none
  | .ne => match ctD x, ctD y with
    | some d, some e => if d.eqOk && e.eqOk then some (!d.eqb e) else none
    | _, _ => none
  | .lt => ltCt x y
  | .le => cmpI (fun i j => dc (i ≤ j)) x y
  | .gt => cmpI (fun i j => dc (j < i)) x y
  | .ge => cmpI (fun i j => dc (j ≤ i)) x y
  | .isin => inCt x y
  | .notin => (inCt x y).map (!·)
  | .isn => match x, y with
    | .d (.bl a), .d (.bl b) => some (a == b)
    | .d .non, .d .non => some true
    | .d (.int _), .d .non => some false
    | .d (.bl _), .d .non => some false
    | .d (.str _), .d .non => some false
    | .d (.tup _), .d .non => some false
    | .o _, .d .non => some false
    | _, _ => none
  | .notn => match x, y with
    | .d (.bl a), .d (.bl b) => some (!(a == b))
    | .d .non, .d .non => some false
    | .d (.int _), .d .non => some true
    | .d (.bl _), .d .non => some true
    | .d (.str _), .d .non => some true
    | .d (.tup _), .d .non => some true
    | .o _, .d .non => some true
    | _, _ => none
def cmp (op : Cop) (x y : R) : M R := fun s =>
  match deref s x, deref s y with
  | some a, some b => liftR ((cmpCt op a b).map fun k => .val (.bl k)) s
  | _, _ => .bad
def idxCt : Ct → Ct → Option D
  | .o (.lst xs), .d (.int i) => atI xs i
  | .d (.tup xs), .d (.int i) => atI xs i
  | .d (.klst xs), .d (.int i) => atI xs i
  | .d (.str z), .d (.int i) => if z.length ≤ sizeLine then (atI z.cps.toList i).map fun c => .str ⟨#[c]⟩ else none
  | .o (.dk kvs), .d d => (keyOf d).bind fun k => lookD kvs k
  | .o (.dt kvs), .d d => (tkeyOf d).bind fun k => lookD kvs k
  | _, _ => none
def idx (x y : R) : M R := fun s =>
  match deref s x, deref s y with
  | some a, some b => liftR ((idxCt a b).map .val) s
  | _, _ => .bad
def cutD {α : Type} (xs : List α) (lo hi : Option Int) : List α := (xs.drop (HT.sIx xs.length 0 lo)).take (HT.sIx xs.length xs.length hi - HT.sIx xs.length 0 lo)

def slcCt (x : Ct) (lo hi : Option Int) : Option R :=
  match x with
  | .o (.lst xs) => some (.new (.lst (cutD xs lo hi)))
  | .d (.tup xs) => some (.val (.tup (cutD xs lo hi)))
  | .d (.klst xs) => some (.new (.lst (cutD xs lo hi)))
  | _ => none
def slc (x : R) (lo hi : Option Int) : M R := fun s =>
  match deref s x with
  | some a => liftR (slcCt a lo hi) s
  | none => .bad
def blsOf : List D → Option (List Bool)
  | [] => some []
  | .bl b :: ds => (blsOf ds).map (b :: ·)
  | _ => none
def strsOf : List D → Option (List Str)
  | [] => some []
  | .str x :: ds => (strsOf ds).map (x :: ·)
  | _ => none
def maxI : List Int → Int
  | [] => 0
  | [a] => a
  | a :: b :: r => max a (maxI (b :: r))
def minI : List Int → Int
  | [] => 0
  | [a] => a
  | a :: b :: r => min a (minI (b :: r))
def rangeL (lo hi : Int) : List D := (List.range (hi - lo).toNat).map fun (i : Nat) => D.int (lo + (i : Int))
def small62 (i : Int) : Bool := dc (-(2 ^ 62) ≤ i ∧ i < 2 ^ 62)
def lenCt : Ct → Option Nat
  | .o (.lst xs) => some xs.length
  | .o (.dk kvs) => some kvs.length
  | .d (.tup xs) => some xs.length
  | .d (.klst xs) => some xs.length
  | .d (.str x) => if x.length ≤ sizeLine then some x.length else none
  | _ => none
def tyCt : Ct → Option String
  | .o (.lst _) => some "list"
  | .d (.tup _) => some "tuple"
  | .d (.int _) => some "int"
  | .d (.bl _) => some "bool"
  | .d (.str _) => some "str"
  | .d .non => some "NoneType"
  | _ => none
def seqCt : Ct → Option (List D)
  | .o (.lst ds) => some ds
  | .d (.tup ds) => some ds
  | _ => none
def lstCt : Ct → Option (List D)
  | .o (.lst ds) => some ds
  | _ => none
def intCt : Ct → Option Int
  | .d (.int i) => some i
  | _ => none
def toInt : Ct → Option Int
  | .d (.int i) => some i
  | .d (.bl b) => some (if b then 1 else 0)
  | _ => none
def blt1 (f : Blt) (c : Ct) : Option R :=
  match f with
  | .len => (lenCt c).map fun (n : Nat) => .val (.int (n : Int))
  | .tuple => (seqCt c).map fun ds => .val (.tup ds)
  | .list => (seqCt c).map fun ds => .new (.lst ds)
  | .int => (toInt c).map fun i => .val (.int i)
  | .str => (intCt c).bind fun i => if i.natAbs.log2 < 1920 then some (.val (.str (toString i))) else none
  | .max1 => (lstCt c).bind fun ds => (intsOf ds).bind fun l => if l.isEmpty then none else some (.val (.int (maxI l)))
  | .min1 => (lstCt c).bind fun ds => (intsOf ds).bind fun l => if l.isEmpty then none else some (.val (.int (minI l)))
  | .all => (lstCt c).bind fun ds => (blsOf ds).map fun l => .val (.bl (l.all id))
  | .any => (lstCt c).bind fun ds => (blsOf ds).map fun l => .val (.bl (l.any id))
  | .sum => (lstCt c).bind fun ds => (intsOf ds).map fun l => .val (.int l.sum)
  | .lrange => (intCt c).bind fun n => if small62 n = true ∧ n.toNat ≤ sizeLine then some (.new (.lst (rangeL 0 n))) else none
  | .trange => (intCt c).bind fun n => if small62 n = true ∧ n.toNat ≤ sizeLine then some (.val (.tup (rangeL 0 n))) else none
  | .istuple => (tyCt c).map fun t => .val (.bl (t == "tuple"))
  | .islist => (tyCt c).map fun t => .val (.bl (t == "list"))
  | .isbool => (tyCt c).map fun t => .val (.bl (t == "bool"))
  | .islt => (tyCt c).map fun t => .val (.bl (t == "list" || t == "tuple"))
  | _ => none
def blt2 (f : Blt) (c d : Ct) : Option R :=
  match f with
  | .max2 => (intCt c).bind fun i => (intCt d).map fun j => .val (.int (if dc (j > i) = true then j else i))
  | .min2 => (intCt c).bind fun i => (intCt d).map fun j => .val (.int (if dc (j < i) = true then j else i))
  | _ => none
def bltCt (f : Blt) (xs : List Ct) : Option R :=
  match xs with
  | [c] => blt1 f c
  | [c, d] => blt2 f c d
  | _ => none
def derefs (s : Sta) : List R → Option (List Ct)
  | [] => some []
  | r :: rs => match deref s r, derefs s rs with
    | some c, some cs => some (c :: cs)
    | _, _ => none
def blt (f : Blt) (rs : List R) : M R := fun s =>
  match derefs s rs with
  | some cs => liftR (bltCt f cs) s
  | none => .bad

/-- the object of a result is put in the place of what was there -/
def setPl (r : R) (o : O) : M Unit := fun s =>
  match r with
  | .slot i => match s.σ[i]? with
    | some (.own _) => .ok () { s with σ := s.σ.set i (.own o) }
    | some (.val (.ref n)) => if n < s.st.length then .ok () { s with st := s.st.set n o } else .bad
    | _ => .bad
  | .val (.ref n) => if n < s.st.length then .ok () { s with st := s.st.set n o } else .bad
  | _ => .bad
def one : List D → Option D
  | [d] => some d
  | _ => none
def two : List D → Option (D × D)
  | [d, e] => some (d, e)
  | _ => none
def dLst : D → Option (List D)
  | .lst ys => some ys
  | _ => none
def dInt : D → Option Int
  | .int i => some i
  | _ => none
/-- what a list's method makes of the list and of its arguments: the list behind it, the answer -/
def mutL (m : Mth) (xs ds : List D) : Option (List D × D) :=
  match m with
  | .append => (one ds).bind fun d => if xs.length < sizeLine then some (xs ++ [d], .non) else none
  | .extend => ((one ds).bind dLst).bind fun ys => if xs.length + ys.length ≤ sizeLine then some (xs ++ ys, .non) else none
  | .pop0 => if ds.isEmpty = true then (xs[xs.length - 1]?).map fun d => (xs.dropLast, d) else none
  | .pop1 => ((one ds).bind dInt).bind fun i => if dc (-(2 ^ 63) ≤ i ∧ i < 2 ^ 63) = true then (seqIndex? i xs.length).bind fun k => (xs[k]?).map fun d => (xs.eraseIdx k, d) else none
  | .clear => if ds.isEmpty = true then some ([], .non) else none
  | _ => none
def mutO (m : Mth) (o : O) (ds : List D) : Option (O × D) :=
  match o with
  | .lst xs => (mutL m xs ds).map fun p => (.lst p.1, p.2)
  | _ => none
/-- methods that change nothing -/
def idxOf (c : Ct) (d : D) : Option Nat :=
  match c with
  | .o (.lst xs) => if d.eqOk && (D.lst xs).eqOk then xs.findIdx? fun z => z.eqb d else none
  | .d (.tup xs) => if d.flat && xs.all D.flat then xs.findIdx? fun z => z.eqb d else none
  | _ => none
def cntOf (c : Ct) (d : D) : Option Nat :=
  match c with
  | .o (.lst xs) => if d.eqOk && (D.lst xs).eqOk then some (xs.countP fun z => z.eqb d) else none
  | .d (.tup xs) => if d.eqOk && (D.tup xs).eqOk then some (xs.countP fun z => z.eqb d) else none
  | _ => none
def getOf (c : Ct) (d e : D) : Option D :=
  match c with
  | .o (.dk kvs) => (keyOf d).map fun k => (lookD kvs k).getD e
  | .o (.dt kvs) => (tkeyOf d).map fun k => (lookD kvs k).getD e
  | _ => none
def askO (m : Mth) (c : Ct) (ds : List D) : Option R :=
  match m with
  | .index => (one ds).bind fun d => (idxOf c d).map fun (j : Nat) => .val (.int (j : Int))
  | .get => (two ds).bind fun p => (getOf c p.1 p.2).map .val
  | .count => (one ds).bind fun d => (cntOf c d).map fun (j : Nat) => .val (.int (j : Int))
  | _ => none
def Mth.muts : Mth → Bool
  | .append | .extend | .pop0 | .pop1 | .clear => true
  | _ => false
/-- whose method it is -/
def mthT (m : Mth) : Ct → Option String
  | .o (.lst _) => match m with
    | .append | .extend | .pop0 | .pop1 | .clear | .index | .count => some "list"
    | _ => none
  | .d (.tup _) => match m with
    | .index | .count => some "tuple"
    | _ => none
  | .o (.dk _) => match m with
    | .get => some "dict"
    | _ => none
  | .o (.dt _) => match m with
    | .get => some "dict"
    | _ => none
  | _ => none
def kindM (m : Mth) (r : R) : M String := fun s => match (deref s r).bind (mthT m) with
  | some T => .ok T s
  | none => .bad
def mth (m : Mth) (T : String) (r : R) (ds : List D) : M R := fun s =>
  match deref s r with
  | some c =>
    if mthT m c = some T then
      if m.muts = true then match c with
        | .o o => match mutO m o ds with
          | some (o', a) => (setPl r o').bind (fun _ => ok1 (.val a)) s
          | none => .bad
        | _ => .bad
      else liftR (askO m c ds) s
    else .bad
  | none => .bad
def setO (o : O) (k v : D) : Option O :=
  match o, k with
  | .lst xs, .int i => (ixN xs.length i).map fun j => .lst (xs.set j v)
  | .dk kvs, d => (keyOf d).bind fun k => if kvs.length < sizeLine then some (.dk (putD kvs k v)) else none
  | .dt kvs, d => (tkeyOf d).bind fun k => if kvs.length < sizeLine then some (.dt (putD kvs k v)) else none
  | _, _ => none
def setItem (r : R) (k : D) (v : D) : M Unit := fun s =>
  match deref s r with
  | some (.o o) => match setO o k v with
    | some o' => setPl r o' s
    | none => .bad
  | _ => .bad
def setSlot (mu : List Nat) (i : Nat) (x : Sl) : M Unit := fun s =>
  if i < s.σ.length ∧ i ∉ mu then .ok () { s with σ := s.σ.set i x } else .bad
def asBl : R → M Bool := fun r s => match r with
  | .val (.bl b) => .ok b s
  | .slot i => match s.σ[i]? with
    | some (.val (.bl b)) => .ok b s
    | _ => .bad
  | _ => .bad
def asInt : R → M Int := fun r s => match deref s r with
  | some (.d (.int i)) => .ok i s
  | _ => .bad
def itemsD : D → Option (List D)
  | .lst xs => some xs
  | .klst xs => some xs
  | .tup xs => some xs
  | _ => none
def enumFrom : Nat → List D → List Itm
  | _, [] => []
  | n, x :: xs => .p (.int (n : Int)) x :: enumFrom (n + 1) xs
def zipD : List D → List D → List Itm
  | x :: xs, y :: ys => .p x y :: zipD xs ys
  | _, _ => []
/-- both lists, or both tuples -/
def bothD : D → D → Option (List D × List D)
  | .tup xs, .tup ys => some (xs, ys)
  | .tup _, _ => none
  | _, .tup _ => none
  | x, y => (itemsD x).bind fun xs => (itemsD y).map fun ys => (xs, ys)
def liftO {α : Type} (o : Option α) : M α := fun s => match o with
  | some a => .ok a s
  | none => .bad
def wipeS (σ : List Sl) : List Nat → List Sl
  | [] => σ
  | v :: vs => (wipeS σ vs).set v .no
/-- the slots of vs as they were -/
def backS (σ0 σ : List Sl) : List Nat → List Sl
  | [] => σ
  | v :: vs => (backS σ0 σ vs).set v (σ0.getD v .no)
def rngD : List D → Option (List Itm)
  | [.int n] => if small62 n = true then some ((rangeL 0 n).map Itm.v) else none
  | [.int a, .int n] => if small62 a = true ∧ small62 n = true then some ((rangeL a n).map Itm.v) else none
  | _ => none
def strD : D → Option (List Itm)
  | .str x => some (x.cps.toList.map fun c => Itm.v (.str ⟨#[c]⟩))
  | _ => none
/-- a list comprehension's turns -/
def lcLoop (vs : List Nat) (tg : Itm → M Unit) (tst : M Bool) (el : M D) : List Itm → List D → M (List D)
  | [], acc => fun s => .ok acc s
  | d :: ds, acc => M.bind (fun s => .ok () { s with σ := wipeS s.σ vs }) fun _ => M.bind (tg d) fun _ => M.bind tst fun b =>
      if b = true then M.bind el fun e => if acc.length < sizeLine then lcLoop vs tg tst el ds (acc ++ [e]) else bad
      else lcLoop vs tg tst el ds acc
def forLoop (tg : Itm → M Unit) (body : M Fl) : List Itm → M Fl
  | [] => fun s => .ok .nx s
  | d :: ds => M.bind (tg d) fun _ => M.bind body fun f => match f with
    | .nx => forLoop tg body ds
    | .rt r => fun s => .ok (.rt r) s
def whileLoop (t : M Bool) (body : M Fl) : Nat → M Fl
  | 0 => bad
  | n + 1 => M.bind t fun b => if b = true then M.bind body fun f => match f with
      | .nx => whileLoop t body n
      | .rt r => fun s => .ok (.rt r) s
    else fun s => .ok .nx s
/-- a call: what was handed over of the slots, put back -/
def backO (l : List Nat) (outs : List O) (s : Sta) : Option Sta :=
  match l, outs with
  | [], [] => some s
  | i :: l, o :: outs => backO l outs { s with σ := s.σ.set i (.own o) }
  | _, _ => none
def rOf : Rt → R
  | .val d => .val d
  | .new o => .new o
def doCall (cal : Cal) (f : Str) (as : List Ar) (l : List Nat) : M R := fun s =>
  match cal f as s.st with
  | .ok r outs st => match backO l outs { s with st := st } with
    | some s' => .ok (rOf r) s'
    | none => .bad
  | .bad => .bad
/-- a new object goes to the store -/
def alloc (r : R) : M R := fun s => match r with
  | .new o => .ok (.val (.ref s.st.length)) { s with st := s.st ++ [o] }
  | _ => .bad
/-- a new object that is handed over -/
def newO : R → M O := fun r s => match r with
  | .new o => .ok o s
  | _ => .bad
def takeOwn (i : Nat) : M O := fun s => match s.σ[i]? with
  | some (.own o) => .ok o { s with σ := s.σ.set i .no }
  | _ => .bad

mutual
def denE (cal : Cal) (mu : List Nat) : C → M R
  | .non => ok1 (.val .non)
  | .bl b => ok1 (.val (.bl b))
  | .int i => ok1 (.val (.int i))
  | .str x => ok1 (.val (.str x))
  | .var i => fun s => match s.σ[i]? with
    | some (.val d) => .ok (.val d) s
    | some (.own _) => .ok (.slot i) s
    | _ => .bad
  | .glo _ d => ok1 (.val d)
  | .tup es => M.bind (denD cal mu es) fun ds => if ds.length ≤ 1000 then ok1 (.val (.tup ds)) else bad
  | .lst es => M.bind (denD cal mu es) fun ds => if ds.length ≤ 1000 then ok1 (.new (.lst ds)) else bad
  | .dnew t => ok1 (.new (if t = true then .dt [] else .dk []))
  | .disp _ ks _ => M.bind (denD cal mu ks) fun ds => liftR (dispR ds)
  | .bin op a b => M.bind (denE cal mu a) fun x => M.bind (denE cal mu b) fun y => bin op x y
  | .neg a => M.bind (denE cal mu a) fun x => M.bind (asInt x) fun i => ok1 (.val (.int (-i)))
  | .cmp op a b => M.bind (denE cal mu a) fun x => M.bind (denE cal mu b) fun y => cmp op x y
  | .cmp2 op op' a b c => M.bind (denE cal mu a) fun x => M.bind (denE cal mu b) fun y => M.bind (cmp op x y) fun z => M.bind (asBl z) fun k =>
      if k = true then M.bind (denE cal mu c) fun w => cmp op' y w else ok1 (.val (.bl false))
  | .boo an es => denB cal mu an es
  | .not a => M.bind (denE cal mu a) fun x => M.bind (asBl x) fun b => ok1 (.val (.bl (!b)))
  | .idx a i => M.bind (denE cal mu a) fun x => M.bind (denE cal mu i) fun y => idx x y
  | .slc a lo hi => M.bind (denE cal mu a) fun x => M.bind (denO cal mu lo) fun l => M.bind (denO cal mu hi) fun h => slc x l h
  | .lc vs t it ifs e => M.bind (denI cal mu it) fun ds => fun s =>
      match lcLoop vs (denG cal mu t) (denQ cal mu ifs) (M.bind (denE cal mu e) frz) ds [] s with
      | .ok acc s' => .ok (.new (.lst acc)) { s' with σ := backS s.σ s'.σ vs }
      | .exc x s' => .exc x s'
      | .bad => .bad
  | .fz e => M.bind (M.bind (denE cal mu e) frz) fun d => ok1 (.val d)
  | .stt e => M.bind (denE cal mu e) alloc
  | .call f es => M.bind (denC cal mu es) fun p => doCall cal f p.1 p.2
  | .blt f es => M.bind (denA cal mu es) fun rs => blt f rs
  | .mth m o es => M.bind (denE cal mu o) fun r => M.bind (kindM m r) fun T => M.bind (denD cal mu es) fun ds => mth m T r ds
  | _ => bad
/-- several, as values -/
def denD (cal : Cal) (mu : List Nat) : C → M (List D)
  | .nil => fun s => .ok [] s
  | .cons e es => M.bind (M.bind (denE cal mu e) frz) fun d => M.bind (denD cal mu es) fun ds => fun s => .ok (d :: ds) s
  | _ => bad
/-- several, as they are -/
def denA (cal : Cal) (mu : List Nat) : C → M (List R)
  | .nil => fun s => .ok [] s
  | .cons e es => M.bind (denE cal mu e) fun d => M.bind (denA cal mu es) fun ds => fun s => .ok (d :: ds) s
  | _ => bad
/-- a call's arguments; the slots that are handed over -/
def denC (cal : Cal) (mu : List Nat) : C → M (List Ar × List Nat)
  | .nil => fun s => .ok ([], []) s
  | .cons e es => match e with
    | .mv i => M.bind (takeOwn i) fun o => M.bind (denC cal mu es) fun p => fun s => .ok (.own o :: p.1, i :: p.2) s
    | .mw e' => M.bind (M.bind (denE cal mu e') newO) fun o => M.bind (denC cal mu es) fun p => fun s => .ok (.own o :: p.1, s.σ.length :: p.2) s
    | e => M.bind (M.bind (denE cal mu e) frz) fun d => M.bind (denC cal mu es) fun p => fun s => .ok (.val d :: p.1, p.2) s
  | _ => bad
/-- and, or -/
def denB (cal : Cal) (mu : List Nat) (an : Bool) : C → M R
  | .cons e es => match es with
    | .nil => denE cal mu e
    | es => M.bind (denE cal mu e) fun x => M.bind (asBl x) fun b => if b = an then denB cal mu an es else ok1 (.val (.bl b))
  | _ => bad
def denO (cal : Cal) (mu : List Nat) : C → M (Option Int)
  | .no => fun s => .ok none s
  | e => M.bind (denE cal mu e) fun x => M.bind (asInt x) fun i => fun s => .ok (some i) s
/-- the test of a comprehension -/
def denQ (cal : Cal) (mu : List Nat) : C → M Bool
  | .no => fun s => .ok true s
  | e => M.bind (denE cal mu e) asBl
/-- what is walked -/
def denI (cal : Cal) (mu : List Nat) : C → M (List Itm)
  | .irng es => M.bind (denD cal mu es) fun ds => liftO (rngD ds)
  | .iseq a => M.bind (M.bind (denE cal mu a) frz) fun d => liftO ((itemsD d).map fun ds => ds.map Itm.v)
  | .ienum a => M.bind (M.bind (M.bind (denE cal mu a) frz) fun d => M.bind (fun s => .ok [] s) fun ds => fun s => .ok (d :: ds) s) fun ds => liftO ((one ds).bind fun d => (itemsD d).map (enumFrom 0))
  | .izip a b => M.bind (M.bind (M.bind (denE cal mu a) frz) fun d => M.bind (M.bind (M.bind (denE cal mu b) frz) fun d => M.bind (fun s => .ok [] s) fun ds => fun s => .ok (d :: ds) s) fun ds => fun s => .ok (d :: ds) s) fun ds => liftO ((two ds).bind fun p => (bothD p.1 p.2).map fun q => zipD q.1 q.2)
  | .istr a => M.bind (M.bind (denE cal mu a) frz) fun d => liftO (strD d)
  | _ => bad
/-- a target, handed what a walk gives -/
def denG (cal : Cal) (mu : List Nat) : C → Itm → M Unit
  | .tn i => fun it => match it with
    | .v d => setSlot mu i (.val d)
    | .p _ _ => bad
  | .tt ts => fun it => match it with
    | .v d => M.bind (liftO (itemsD d)) fun ds => denTs cal mu ts ds
    | .p a b => denTs cal mu ts [a, b]
  | _ => fun _ => bad
/-- a target, handed a value -/
def denT (cal : Cal) (mu : List Nat) : C → D → M Unit
  | .tn i => fun d => setSlot mu i (.val d)
  | .tt ts => fun d => M.bind (liftO (itemsD d)) fun ds => denTs cal mu ts ds
  | .ti o i => fun d => M.bind (denE cal mu o) fun p => M.bind (M.bind (denE cal mu i) frz) fun k => setItem p k d
  | _ => fun _ => bad
def denTs (cal : Cal) (mu : List Nat) : C → List D → M Unit
  | .nil => fun rs => match rs with
    | [] => fun s => .ok () s
    | _ => bad
  | .cons t ts => fun rs => match rs with
    | r :: rs => M.bind (denT cal mu t r) fun _ => denTs cal mu ts rs
    | _ => bad
  | _ => fun _ => bad
end
/-- a name that keeps a new object as its own -/
def setW (mu : List Nat) (i : Nat) (r : R) : M Unit := match r with
  | .new o => setSlot mu i (.own o)
  | .val d => setSlot mu i (.val d)
  | .slot _ => bad
/-- several values for several names -/
def denWs (mu : List Nat) : C → List R → M Unit
  | .nil => fun rs => match rs with
    | [] => fun s => .ok () s
    | _ => bad
  | .cons t ts => fun rs => match rs with
    | r :: rs => match t with
      | .tw i => M.bind (setW mu i r) fun _ => denWs mu ts rs
      | _ => bad
    | _ => bad
  | _ => fun _ => bad
def denAsg (cal : Cal) (mu : List Nat) (t e : C) : M Unit :=
  match t with
  | .tw i => M.bind (denE cal mu e) fun r => setW mu i r
  | t => M.bind (M.bind (denE cal mu e) frz) fun d => denT cal mu t d
mutual
def denS (cal : Cal) (mu : List Nat) : C → M Fl
  | .asg t e => M.bind (denAsg cal mu t e) fun _ => fun s => .ok .nx s
  | .par ts es => M.bind (denA cal mu es) fun rs => M.bind (denWs mu ts rs) fun _ => fun s => .ok .nx s
  | .ex e => M.bind (denE cal mu e) fun _ => fun s => .ok .nx s
  | .ret e => M.bind (denE cal mu e) fun r => fun s => .ok (.rt r) s
  | .ite c a b => M.bind (M.bind (denE cal mu c) asBl) fun k => if k = true then denBl cal mu a else denBl cal mu b
  | .fr t it b => M.bind (denI cal mu it) fun ds => forLoop (denG cal mu t) (denBl cal mu b) ds
  | .whl n c b => whileLoop (M.bind (denE cal mu c) asBl) (denBl cal mu b) n
  | _ => bad
def denBl (cal : Cal) (mu : List Nat) : C → M Fl
  | .nil => fun s => .ok .nx s
  | .cons c cs => M.bind (denS cal mu c) fun f => match f with
    | .nx => denBl cal mu cs
    | .rt r => fun s => .ok (.rt r) s
  | _ => bad
end

/-- a def: its parameters, those whose objects are handed over, its slots, its body -/
structure Fd where
  n : Nat
  m : List Nat
  k : Nat
  body : C
def slOf : Ar → Sl
  | .val d => .val d
  | .own o => .own o
def Ar.isOwn : Ar → Bool
  | .own _ => true
  | .val _ => false
/-- the handed over objects as they are at the end -/
def outsOf (σ : List Sl) : List Nat → Option (List O)
  | [] => some []
  | j :: js => match σ[j]?, outsOf σ js with
    | some (.own o), some os => some (o :: os)
    | _, _ => none
def endR (m : List Nat) (s : Sta) : R → Option Rt
  | .val d => some (.val d)
  | .new o => some (.new o)
  | .slot i => if i ∈ m then none else match s.σ[i]? with
    | some (.own o) => some (.new o)
    | some (.val d) => some (.val d)
    | _ => none
def ownPlaces (as : List Ar) : List Nat := (as.zipIdx.filter fun p => p.1.isOwn).map (·.2)
def runFd (cal : Cal) (fd : Fd) (as : List Ar) (st : List O) : CO :=
  if as.length = fd.n ∧ ownPlaces as = fd.m ∧ fd.n ≤ fd.k then
    match denBl cal fd.m fd.body ⟨as.map slOf ++ List.replicate (fd.k - fd.n) .no, st⟩ with
    | .ok f s => match (match f with | .nx => some (Rt.val .non) | .rt r => endR fd.m s r), outsOf s.σ fd.m with
      | some r, some os => .ok r os s.st
      | _, _ => .bad
    | _ => .bad
  else .bad
abbrev Tab := List (Str × Fd)
def calN (tab : Tab) : Nat → Cal
  | 0 => fun _ _ _ => .bad
  | n + 1 => fun f as st => match tab.lookup f with
    | some fd => runFd (calN tab n) fd as st
    | none => .bad
end
end NH

set_option Elab.async false
set_option linter.all false
set_option maxRecDepth 100000
set_option maxHeartbeats 1000000
set_option autoImplicit false
namespace NH
open PySem L2

/-- behind some steps of one frame -/
structure Po (K : PySem.W.Frag) (g : Gh) (S : Sta) (σ : St) (H : Hp) (g' : Gh) (S' : Sta) (H' : Hp) : Prop where
  rel : Rel K g' S' σ H'
  less : Less S S'
  fr : Fr S σ g g' H H'
section
variable {K : PySem.W.Frag} {g g' g'' : Gh} {S S' S'' : Sta} {σ : St} {H0 H H' H'' : Hp}
theorem Po.refl (r : Rel K g S σ H) : Po K g S σ H g S H := ⟨r, .refl, .refl⟩
theorem Po.trans (a : Po K g S σ H g' S' H') (b : Po K g' S' σ H' g'' S'' H'') : Po K g S σ H g'' S'' H'' :=
  ⟨b.rel, a.less.trans b.less, .trans a.less a.fr b.fr⟩
theorem Po.stay (r : Rel K g S σ H) (a : Po K g S σ H g' S' H') : Stay g g' H H' := a.fr.stay r
/-- a result that waits while further steps are done -/
theorem RepR.mono {r : R} {v : V} (rl : Rel K g S σ H) (h : RepR K g S σ H0 H r v) (p : Po K g S σ H g' S' H') : RepR K g' S' σ H0 H' r v := by
  cases r with
  | val d => exact Rep.stay (p.stay rl) d v h
  | slot i => exact h
  | new o =>
    obtain ⟨a, e, ro, h0, hg, ho⟩ := h
    obtain ⟨u, hu, _⟩ := ro.mut
    have k := p.fr.keep a u hu hg ho
    refine ⟨a, e, ro.stay (p.stay rl) (k.trans hu.symm), h0, ?_, fun i hi => ho i (p.less.at hi)⟩
    obtain ⟨l, rfl, hl⟩ := p.fr.ext
    intro hm
    rcases List.mem_append.mp hm with z | z
    · exact hg z
    · rw [hl a z] at hu; cases hu
/-- a result seen from an earlier heap -/
theorem RepR.back {r : R} {v : V} (h : RepR K g S σ H0 H r v) (k : ∀ a, H0 a = none → H'' a = none) : RepR K g S σ H'' H r v := by
  cases r with
  | val d => exact h
  | slot i => exact h
  | new o => obtain ⟨a, e, ro, h0, r⟩ := h; exact ⟨a, e, ro, k a h0, r⟩

/-- a new object that no name and no store holds -/
theorem Rel.fresh {p : Addr} {u : HO} (r : Rel K g S σ H) (hp : H p = none) : Rel K g S σ (upd H p u) := by
  have st : Stay g g H (upd H p u) := ⟨fun _ _ h => h, fun a vs h => by rw [upd_ne (ne_of_none h hp)]; exact h, fun a o w h => by rw [upd_ne (ne_of_none h hp)]; exact h⟩
  have ko : ∀ {o : O} {a : Addr}, RepO K g H o a → RepO K g (upd H p u) o a := fun {o a} h => by
    obtain ⟨w, hw, _⟩ := h.mut
    exact h.stay st (upd_ne (ne_of_none hw hp))
  refine ⟨r.len, fun i d h => ?_, fun i o h => ?_, r.inj, fun n o h => ?_, r.gl, r.gn⟩
  · obtain ⟨v, h1, h2⟩ := r.val i d h
    exact ⟨v, h1, h2.stay st⟩
  · obtain ⟨a, h1, h2, h3⟩ := r.own i o h
    exact ⟨a, h1, ko h2, h3⟩
  · obtain ⟨a, h1, h2⟩ := r.st n o h
    exact ⟨a, h1, ko h2⟩
theorem Fr.fresh {p : Addr} {u : HO} (hp : H p = none) : Fr S σ g g H (upd H p u) :=
  ⟨⟨[], by simp, by simp⟩, fun b o h _ _ => by rw [upd_ne (ne_of_none h hp)]; exact h, fun b h => by
    by_cases e : b = p
    · rw [e]; exact hp
    · rw [upd_ne e] at h; exact h⟩
theorem Po.fresh {p : Addr} {u : HO} (r : Rel K g S σ H) (hp : H p = none) : Po K g S σ H g S (upd H p u) := ⟨r.fresh hp, .refl, .fresh hp⟩
theorem Stay.fresh {p : Addr} {u : HO} (hp : H p = none) : Stay g g H (upd H p u) := ⟨fun _ _ h => h, fun a vs h => by rw [upd_ne (ne_of_none h hp)]; exact h, fun a o w h => by rw [upd_ne (ne_of_none h hp)]; exact h⟩
/-- a new list (dict) as a result -/
theorem RepR.lstNew {p : Addr} {ds : List D} {vs : List V} (r : Rel K g S σ H) (hp : H p = none) (h : RepAll K g H ds vs) (h0 : H0 p = none) : RepR K g S σ H0 (upd H p (.lst vs)) (.new (.lst ds)) (.ref p) := by
  refine ⟨p, rfl, ⟨vs, upd_same, h.stay (Stay.fresh hp)⟩, h0, fun hm => ?_, fun i hi => ?_⟩
  · obtain ⟨n, hn⟩ := List.getElem?_of_mem hm
    have hlt : n < S.st.length := by rw [r.gl]; exact (List.getElem?_eq_some_iff.mp hn).1
    obtain ⟨b, hb, ho⟩ := r.st n _ (List.getElem?_eq_getElem hlt)
    rw [hn] at hb; cases hb
    obtain ⟨u', e, m⟩ := ho.mut
    rw [hp] at e; cases e
  · obtain ⟨⟨o, ho⟩, e⟩ := hi
    obtain ⟨b, hb, hr, _⟩ := r.own i o ho
    rw [e] at hb; cases hb
    obtain ⟨u', e', _⟩ := hr.mut
    rw [hp] at e'; cases e'
theorem Rel.notNew (r : Rel K g S σ H) {p : Addr} (hp : H p = none) : p ∉ g ∧ ∀ i, ¬ OwnAt S σ i p := by
  refine ⟨fun hm => ?_, fun i hi => ?_⟩
  · obtain ⟨n, hn⟩ := List.getElem?_of_mem hm
    have hlt : n < S.st.length := by rw [r.gl]; exact (List.getElem?_eq_some_iff.mp hn).1
    obtain ⟨b, hb, ho⟩ := r.st n _ (List.getElem?_eq_getElem hlt)
    rw [hn] at hb; cases hb
    obtain ⟨u', e, m⟩ := ho.mut
    rw [hp] at e; cases e
  · obtain ⟨⟨o, ho⟩, e⟩ := hi
    obtain ⟨b, hb, hr, _⟩ := r.own i o ho
    rw [e] at hb; cases hb
    obtain ⟨u', e', _⟩ := hr.mut
    rw [hp] at e'; cases e'
theorem Rep.tupNew {p : Addr} {ds : List D} {vs : List V} {o : Obj} (hp : H p = none) (ho : o.dict = none) (h : RepAll K g H ds vs) : Rep K g (upd H p (.frz o (.tup vs))) (.tup ds) (.ref p) := by
  unfold Rep
  exact ⟨p, vs, rfl, ⟨o, upd_same, ho⟩, h.stay (Stay.fresh hp)⟩

/-- what stands behind a result, at the heap -/
def RepC (K : PySem.W.Frag) (g : Gh) (H : Hp) : Ct → V → Prop
  | .d d, v => Rep K g H d v
  | .o (.lst ds), v => ∃ a vs, v = .ref a ∧ Rd H a (.lst vs) ∧ RepAll K g H ds vs
  | .o o, v => ∃ a, v = .ref a ∧ RepO K g H o a
theorem RepO.ct {o : O} {a : Addr} (h : RepO K g H o a) : RepC K g H (.o o) (.ref a) := by
  cases o with
  | lst ds => obtain ⟨vs, h1, h2⟩ := h; exact ⟨a, vs, rfl, .of h1, h2⟩
  | dk ds => exact ⟨a, rfl, h⟩
  | dt ds => exact ⟨a, rfl, h⟩
  | ins c fs => exact ⟨a, rfl, h⟩
theorem Rep.ct (r : Rel K g S σ H) {d : D} {v : V} {c : Ct} (h : Rep K g H d v) (e : ctOf S.st d = some c) : RepC K g H c v := by
  cases d with
  | non => cases e; exact h
  | bl b => cases e; exact h
  | int i => cases e; exact h
  | str x => cases e; exact h
  | tup xs => cases e; exact h
  | lst xs =>
    cases e
    unfold Rep at h
    obtain ⟨a, vs, h1, ⟨o, h2⟩, h3⟩ := h
    exact ⟨a, vs, h1, .inr ⟨o, h2⟩, h3⟩
  | klst xs => cases e; exact h
  | ref n =>
    unfold ctOf at e
    obtain ⟨o, ho, rfl⟩ := Option.map_eq_some_iff.mp e
    unfold Rep at h
    obtain ⟨a, rfl, ha⟩ := h
    obtain ⟨b, hb, hr⟩ := r.st n o ho
    rw [ha] at hb; cases hb
    exact hr.ct
theorem RepR.ct (r : Rel K g S σ H) {x : R} {v : V} {c : Ct} (h : RepR K g S σ H0 H x v) (e : deref S x = some c) : RepC K g H c v := by
  cases x with
  | val d => exact Rep.ct r h e
  | slot i =>
    have h : σ[i]? = some (some v) := h
    simp only [deref] at e
    split at e
    · rename_i o ho
      cases e
      obtain ⟨a, h1, h2, _⟩ := r.own i o ho
      rw [h] at h1; cases h1
      exact h2.ct
    · rename_i d hd
      obtain ⟨w, h1, h2⟩ := r.val i d hd
      rw [h] at h1; cases h1
      exact Rep.ct r h2 e
    · cases e
  | new o =>
    cases e
    obtain ⟨a, rfl, h1, _⟩ := h
    exact h1.ct

/-! ### the readings -/
def tE (K : PySem.W.Frag) (m : M R) : TE := fun σ H Q => ∃ g S, Rel K g S σ H ∧ ∃ r S', m S = .ok r S' ∧ ∀ v g' H', Po K g S σ H g' S' H' → RepR K g' S' σ H H' r v → Q v H'
def tD (K : PySem.W.Frag) (m : M D) : TE := fun σ H Q => ∃ g S, Rel K g S σ H ∧ ∃ d S', m S = .ok d S' ∧ ∀ v g' H', Po K g S σ H g' S' H' → Rep K g' H' d v → Q v H'
def tQ (K : PySem.W.Frag) (m : M Bool) : TT := fun σ H Q => ∃ g S, Rel K g S σ H ∧ ∃ b S', m S = .ok b S' ∧ ∀ g' H', Po K g S σ H g' S' H' → Q b H'
def tDs (K : PySem.W.Frag) (m : M (List D)) : TA := fun σ H Q => ∃ g S, Rel K g S σ H ∧ ∃ ds S', m S = .ok ds S' ∧ ∀ vs g' H', Po K g S σ H g' S' H' → RepAll K g' H' ds vs → Q vs H'
/-- v is none of the new ones -/
def NewApart (v : V) (rs : List R) (vs : List V) : Prop := ∀ (j : Nat) (o : O), rs[j]? = some (.new o) → vs[j]? ≠ some v
/-- several results that wait; new ones stand apart -/
def RepRs (K : PySem.W.Frag) (g : Gh) (S : Sta) (σ : St) (H0 H : Hp) : List R → List V → Prop
  | [], vs => vs = []
  | r :: rs, vs => ∃ v t, vs = v :: t ∧ RepR K g S σ H0 H r v ∧ (∀ o, r = .new o → NewApart v rs t) ∧ RepRs K g S σ H0 H rs t
def tAs (K : PySem.W.Frag) (m : M (List R)) : TA := fun σ H Q => ∃ g S, Rel K g S σ H ∧ ∃ rs S', m S = .ok rs S' ∧ ∀ vs g' H', Po K g S σ H g' S' H' → RepRs K g' S' σ H H' rs vs → Q vs H'
end
theorem bind_ok {α β : Type} {m : M α} {f : α → M β} {s s' : Sta} {b : β} (h : M.bind m f s = .ok b s') : ∃ a s1, m s = .ok a s1 ∧ f a s1 = .ok b s' := by
  unfold M.bind at h
  split at h
  · rename_i a s1 e
    exact ⟨a, s1, e, h⟩
  · cases h
  · cases h
theorem PE.imp {X : Cx} {e : Expr} {t t' : TE} (h : PE X e t) (k : ∀ σ H Q, t' σ H Q → t σ H Q) : PE X e t' := ⟨fun pins s σ H Q I q => h.run pins s σ H Q I (k σ H Q q)⟩
theorem PT.imp {X : Cx} {e : Expr} {t t' : TT} (h : PT X e t) (k : ∀ σ H Q, t' σ H Q → t σ H Q) : PT X e t' := ⟨fun pins s σ H Q I q => h.run pins s σ H Q I (k σ H Q q)⟩
theorem PW.imp {X : Cx} {e : Expr} {t t' : TT} (h : PW X e t) (k : ∀ σ H Q, t' σ H Q → t σ H Q) : PW X e t' := ⟨fun wh pins s σ H Q I q => h.run wh pins s σ H Q I (k σ H Q q)⟩
theorem PA.imp {X : Cx} {e : List Expr} {t t' : TA} (h : PA X e t) (k : ∀ σ H Q, t' σ H Q → t σ H Q) : PA X e t' := ⟨fun pos pins s σ H Q I q => h.run pos pins s σ H Q I (k σ H Q q)⟩
theorem PS.imp {X : Cx} {e : Stmt} {t t' : TS} (h : PS X e t) (k : ∀ D σ H, t' D σ H → t D σ H) : PS X e t' := ⟨fun pins s σ H Q I q => h.run pins s σ H Q I (k Q σ H q)⟩
theorem PSs.imp {X : Cx} {e : List Stmt} {t t' : TS} (h : PSs X e t) (k : ∀ D σ H, t' D σ H → t D σ H) : PSs X e t' := ⟨fun pins s σ H Q I q => h.run pins s σ H Q I (k Q σ H q)⟩
theorem PG.imp {X : Cx} {e : Expr} {t t' : TG} (h : PG X e t) (k : ∀ v σ H Q, t' v σ H Q → t v σ H Q) : PG X e t' := ⟨fun pins s σ H v u Q I r q => h.run pins s σ H v u Q I r (k v σ H Q q)⟩
theorem PGs.imp {X : Cx} {e : List Expr} {t t' : TGs} (h : PGs X e t) (k : ∀ v σ H Q, t' v σ H Q → t v σ H Q) : PGs X e t' := ⟨fun pins s σ H v u Q I r q => h.run pins s σ H v u Q I r (k v σ H Q q)⟩

/-! ### a list is frozen -/
theorem inv_frz {X : Cx} {pins : List (Addr × Obj)} {σ : St} {H : Hp} {s : Shared} {a : Addr} {xs : List V} (I : Inv X pins σ H s) (h : H a = some (.lst xs)) : ∃ o, Inv X pins σ (upd H a (.frz o (.lst xs))) s := by
  obtain ⟨z, its, n, r, e⟩ := I.hok a _ h
  refine ⟨{ cls := .type "list", data := .seq its.toArray n }, ⟨I.ok, I.os, I.bare, ⟨I.base.keep, I.base.slot, fun b o q n hx => ?_, I.base.there, fun b xs q => ?_, fun b o u q => ?_, fun b ps q => ?_⟩, I.loc, I.cell, ?_, fun x c q => ?_, fun p hp => ?_, fun b u q => ?_, I.len⟩⟩
  · have w := I.base.free b o q n hx
    rw [upd_ne (fun z => by rw [z, h] at w; cases w)]; exact w
  · have w := I.base.tups b xs q
    rw [upd_ne (fun z => by rw [z, h] at w; cases w)]; exact w
  · have w := I.base.frzs b o u q
    rw [upd_ne (fun z => by rw [z, h] at w; cases w)]; exact w
  · obtain ⟨m, w⟩ := I.base.tbls b ps q
    exact ⟨m, by rw [upd_ne (fun z => by rw [z, h] at w; cases w)]; exact w⟩
  · have w := I.free
    rw [upd_ne (fun z => by rw [z, h] at w; cases w)]; exact w
  · have w := I.freeC x c q
    rw [upd_ne (fun z => by rw [z, h] at w; cases w)]; exact w
  · obtain ⟨w1, w, w3⟩ := I.pin p hp
    exact ⟨w1, by rw [upd_ne (fun z => by rw [z, h] at w; cases w)]; exact w, w3⟩
  · have ho : ∀ c y, H c = some (.own y) → upd H a (.frz { cls := .type "list", data := .seq its.toArray n } (.lst xs)) c = some (.own y) := fun c y w => by
      rw [upd_ne (fun z => by rw [z, h] at w; cases w)]; exact w
    have ht : ∀ c ys, H c = some (.tup ys) → upd H a (.frz { cls := .type "list", data := .seq its.toArray n } (.lst xs)) c = some (.tup ys) := fun c y w => by
      rw [upd_ne (fun z => by rw [z, h] at w; cases w)]; exact w
    by_cases hb : b = a
    · subst hb
      rw [upd_same] at q; cases q
      exact ⟨e, z, its, n, r, e⟩
    · rw [upd_ne hb] at q
      exact (I.hok b u q).stay (fun _ _ _ w => w) (fun c w => ho c b w) ht
theorem PE.frz {X : Cx} {e : Expr} {t : TE} (h : PE X e t) : PE X e (fun σ H Q => t σ H fun v H1 => Q v H1 ∨ ∃ a xs, v = .ref a ∧ H1 a = some (.lst xs) ∧ ∀ o, Q v (upd H1 a (.frz o (.lst xs)))) := by
  refine ⟨fun pins s σ H Q I q => ?_⟩
  refine thn (h.run pins s σ H _ I q) fun v s1 ⟨x, H1, I1, r1, q1⟩ => ?_
  rcases q1 with q1 | ⟨a, xs, rfl, ha, q1⟩
  · exact ⟨x, H1, I1, r1, q1⟩
  · obtain ⟨o, I2⟩ := inv_frz I1 ha
    exact ⟨_, _, I2, r1, q1 o⟩

section
variable {K : PySem.W.Frag} {g g' g'' : Gh} {S S' S'' : Sta} {σ : St} {H0 H H' H'' : Hp}
theorem Stay.frzAt {a : Addr} {xs : List V} {o : Obj} (h : H a = some (.lst xs)) : Stay g g H (upd H a (.frz o (.lst xs))) :=
  ⟨fun _ _ h => h, fun b vs q => by rw [upd_ne (fun z => by rw [z, h] at q; cases q)]; exact q, fun b o w q => by rw [upd_ne (fun z => by rw [z, h] at q; cases q)]; exact q⟩
/-- an address that neither a slot nor the store holds gets another content -/
theorem Rel.other {a : Addr} {u : HO} (r : Rel K g S σ H) (hg : a ∉ g) (ho : ∀ i, ¬ OwnAt S σ i a) (st : Stay g g H (upd H a u)) : Rel K g S σ (upd H a u) := by
  refine ⟨r.len, fun i d h => ?_, fun i o h => ?_, r.inj, fun n o h => ?_, r.gl, r.gn⟩
  · obtain ⟨v, h1, h2⟩ := r.val i d h
    exact ⟨v, h1, h2.stay st⟩
  · obtain ⟨b, h1, h2, h3⟩ := r.own i o h
    exact ⟨b, h1, h2.stay st (upd_ne fun z => ho i ⟨⟨o, h⟩, z ▸ h1⟩), h3⟩
  · obtain ⟨b, h1, h2⟩ := r.st n o h
    exact ⟨b, h1, h2.stay st (upd_ne fun z => hg (z ▸ List.mem_of_getElem? h1))⟩
/-- a waiting result becomes a value -/
theorem frz_ok {g0 : Gh} {S0 : Sta} {r : R} {d : D} {v : V} {Q : V → Hp → Prop} (p0 : Po K g0 S0 σ H0 g S H) (h : RepR K g S σ H0 H r v) (e : NH.frz r S = .ok d S')
    (q : ∀ g' H', Po K g0 S0 σ H0 g' S' H' → Rep K g' H' d v → Q v H') : Q v H ∨ ∃ a xs, v = .ref a ∧ H a = some (.lst xs) ∧ ∀ o, Q v (upd H a (.frz o (.lst xs))) := by
  have rl := p0.rel
  cases r with
  | val d' =>
    cases e
    exact .inl (q g H p0 h)
  | slot i =>
    have h : σ[i]? = some (some v) := h
    simp only [NH.frz] at e
    split at e
    · rename_i xs hs
      cases e
      obtain ⟨a, h1, ⟨vs, h2, h3⟩, hg⟩ := rl.own i _ hs
      rw [h] at h1; cases h1
      refine .inr ⟨a, vs, rfl, h2, fun o => ?_⟩
      have st : Stay g g H (upd H a (.frz o (.lst vs))) := Stay.frzAt h2
      have il : i < S.σ.length := (List.getElem?_eq_some_iff.mp hs).1
      have rep : Rep K g (upd H a (.frz o (.lst vs))) (.lst xs) (.ref a) := by
        unfold Rep
        exact ⟨a, vs, rfl, ⟨o, upd_same⟩, h3.stay st⟩
      have less : Less S { S with σ := S.σ.set i (.val (.lst xs)) } := fun j o' hj => by
        by_cases e : i = j
        · subst e; rw [List.getElem?_set_self il] at hj; cases hj
        · rw [List.getElem?_set_ne e] at hj; exact ⟨o', hj⟩
      have own : ∀ j, OwnAt { S with σ := S.σ.set i (.val (.lst xs)) } σ j a → False := fun j hj => by
        have e := rl.inj i j a ⟨⟨_, hs⟩, h⟩ (less.at hj)
        subst e
        obtain ⟨⟨o', ho'⟩, _⟩ := hj
        rw [List.getElem?_set_self il] at ho'; cases ho'
      refine q g _ (p0.trans ⟨⟨by simpa using rl.len, fun j d' hj => ?_, fun j o' hj => ?_, fun j l b h1 h2 => rl.inj j l b (less.at h1) (less.at h2), fun n o' hn => ?_, rl.gl, rl.gn⟩, less, ⟨⟨[], by simp, by simp⟩, fun b o' hb hbg hbo => ?_, fun b hb => ?_⟩⟩) rep
      · by_cases e : i = j
        · subst e; rw [List.getElem?_set_self il] at hj; cases hj
          exact ⟨_, h, rep⟩
        · rw [List.getElem?_set_ne e] at hj
          obtain ⟨w, h1, h2⟩ := rl.val j d' hj
          exact ⟨w, h1, h2.stay st⟩
      · have hj' := hj
        by_cases e : i = j
        · subst e; rw [List.getElem?_set_self il] at hj; cases hj
        · rw [List.getElem?_set_ne e] at hj
          obtain ⟨b, h1, h2, h3⟩ := rl.own j o' hj
          exact ⟨b, h1, h2.stay st (upd_ne fun z => own j ⟨⟨o', hj'⟩, z ▸ h1⟩), h3⟩
      · obtain ⟨b, h1, h2⟩ := rl.st n o' hn
        exact ⟨b, h1, h2.stay st (upd_ne fun z => hg (z ▸ List.mem_of_getElem? h1))⟩
      · have hne : b ≠ a := fun z => hbo i ⟨⟨_, hs⟩, by rw [z]; exact h⟩
        rw [upd_ne hne]; exact hb
      · by_cases e : b = a
        · subst e; rw [upd_same] at hb; cases hb
        · rw [upd_ne e] at hb; exact hb
    · rename_i d' hd
      cases e
      obtain ⟨w, h1, h2⟩ := rl.val i d hd
      rw [h] at h1; cases h1
      exact .inl (q g H p0 h2)
    · cases e
  | new o =>
    cases o with
    | lst xs =>
      cases e
      obtain ⟨a, rfl, ⟨vs, h2, h3⟩, h0, hg, ho⟩ := h
      refine .inr ⟨a, vs, rfl, h2, fun o => ?_⟩
      have st : Stay g g H (upd H a (.frz o (.lst vs))) := Stay.frzAt h2
      refine q g _ ⟨rl.other hg ho st, p0.less, ⟨p0.fr.ext, fun b o' hb hbg hbo => ?_, fun b hb => ?_⟩⟩ ?_
      · rw [upd_ne (fun z => by rw [z, h0] at hb; cases hb)]
        exact p0.fr.keep b o' hb hbg hbo
      · by_cases e : b = a
        · subst e; rw [upd_same] at hb; cases hb
        · rw [upd_ne e] at hb; exact p0.fr.there b hb
      · unfold Rep
        exact ⟨a, vs, rfl, ⟨o, upd_same⟩, h3.stay st⟩
    | dk kvs => cases e
    | dt kvs => cases e
    | ins c fs => cases e
end
/-- from what an expression comes to, to its value -/
theorem PE.toD {X : Cx} {e : Expr} {m : M R} (h : PE X e (tE X.K m)) : PE X e (tD X.K (M.bind m NH.frz)) := by
  refine PE.imp (PE.frz h) fun σ H Q ⟨g, S, rl, d, S', hm, q⟩ => ?_
  obtain ⟨r, S1, h1, h2⟩ := bind_ok hm
  exact ⟨g, S, rl, r, S1, h1, fun v g' H' p rp => frz_ok p rp h2 fun g2 H2 p2 r2 => q v g2 H2 p2 r2⟩
end NH

set_option Elab.async false
set_option linter.all false
set_option maxRecDepth 100000
set_option maxHeartbeats 1000000
set_option autoImplicit false
namespace NH
open PySem L2
section
variable {X : Cx}
def exO (us : List Value) : Obj := { cls := .type "tuple", data := .seq us.toArray }
/-- a new tuple is laid, its object known -/
theorem laidT {pins : List (Addr × Obj)} {σ : St} {H : Hp} {s : Shared} {xs : List V} {us : List Value} {t' : Nat} (I : L2.Inv X pins σ H s) (z : xs.length ≤ sizeLine) (r : Vals xs us) :
    L2.Inv X pins σ (upd H s.heap.objs.size (.frz (exO us) (.tup xs))) { s with heap := s.heap.push (exO us), toks := t' } :=
  I.laid (t' := t') (fun b u e => Heap.get?_push_of_some _ e) (Nat.le_refl _) ⟨Heap.get?_push_size _ rfl, z, us, r, ⟨_, Heap.get?_push_size _ rfl, rfl, _, rfl⟩⟩
def tTupF (t : TA) : TE := fun σ H Q => t σ H fun xs H1 => xs.length ≤ sizeLine ∧ ∀ (p : Addr) (o : Obj), H1 p = none → o.dict = none → Q (.ref p) (upd H1 p (.frz o (.tup xs)))
open PySem.Spec PyProof.Rows in
theorem pe_tupF {es : List Expr} {t : TA} {x1 : Nat} {pos : Pos} (h : PA X es t) : PE X (.Tuple es x1 pos) (tTupF t) := by
  refine ⟨fun pins s σ H Q I hq => ?_⟩
  refine wpAny_Tuple_spliced (thn (h.run pos pins s σ H _ I hq) fun us s1 ⟨xs, H1, I1, r, z, q⟩ => ⟨by rw [← r.length]; exact z, ?_⟩)
  exact ⟨.ref s1.heap.objs.size, _, laidT (t' := s1.toks) I1 z r, rfl, q _ _ (I1.hok.fresh (Nat.le_refl _)) rfl⟩
open PySem.Spec PyProof.Rows in
theorem call_tuple_F : CallR X (.type "tuple") (fun xs H Q => ∃ p ys, xs = [.ref p] ∧ ((SqL X.K H p ys ∧ ∀ (l : Addr) (o : Obj), H l = none → o.dict = none → Q (.ref l) (upd H l (.frz o (.tup ys)))) ∨ (SqT X.K H p ys ∧ Q (.ref p) H))) := by
  intro pins s σ H xs us Q I r h
  obtain ⟨p, ys, rfl, h⟩ := h
  obtain ⟨u, rfl, rx⟩ := vals1 r
  cases rx
  rcases h with ⟨hq, q⟩ | ⟨hq, q⟩
  · obtain ⟨its, r', pl, hz⟩ := I.list hq
    have hlen := r'.length
    refine call_tuple_list pl.isList (fun h' kp => ?_) (by simp only [List.size_toArray] <;> omega)
    have I1 : L2.Inv X pins σ H { s with heap := h' } := I.kept (t' := s.toks) kp
    exact ⟨.ref h'.objs.size, _, laidT (t' := s.toks) I1 hz r', rfl, q _ _ (I1.hok.fresh (Nat.le_refl _)) rfl⟩
  · obtain ⟨its, r', pl, hz⟩ := I.tuple hq
    exact call_tuple_same pl ⟨.ref p, H, I, rfl, q⟩
/-- t + u -/
def rCatF (K : PySem.W.Frag) : R2 := fun x y H Q => ∃ a b xs ys, x = .ref a ∧ y = .ref b ∧ SqT K H a xs ∧ SqT K H b ys ∧ xs.length + ys.length ≤ sizeLine ∧
  (xs = [] → Q (.ref b) H) ∧ (xs ≠ [] → ys = [] → Q (.ref a) H) ∧ (xs ≠ [] → ys ≠ [] → ∀ (p : Addr) (o : Obj), H p = none → o.dict = none → Q (.ref p) (upd H p (.frz o (.tup (xs ++ ys)))))
theorem op_catF : OpR X (binaryOp .Add) (rCatF X.K) := by
  intro pins s σ H x y v u Q I rx ry h
  obtain ⟨a, b, xs, ys, rfl, rfl, ha, hb, hz, q0, q1, q2⟩ := h
  cases rx
  cases ry
  obtain ⟨its, r1, p1, _⟩ := I.tuple ha
  obtain ⟨its2, r2, p2, _⟩ := I.tuple hb
  by_cases hx : xs = []
  · subst hx
    cases r1
    exact cat_tup0 p1 p2 ⟨.ref b, H, I, rfl, q0 rfl⟩
  · refine HT.cat_tup p1 p2 (fun z => hx (r1.nil_iff.mp z)) (fun z => ⟨.ref a, H, I, rfl, q1 hx (r2.nil_iff.mp z)⟩) (fun z => ?_) (by rw [← r1.length, ← r2.length]; exact hz)
    exact ⟨.ref s.heap.objs.size, _, laidT (t' := s.toks) I (by rw [List.length_append]; exact hz) (r1.append r2), rfl, q2 hx (fun w => z (r2.nil_iff.mpr w)) _ _ (I.hok.fresh (Nat.le_refl _)) rfl⟩
def rSlF (K : PySem.W.Frag) : V → Option Int → Option Int → Hp → VK → Prop := fun x lo hi H Q => ∃ a xs, x = .ref a ∧ SqT K H a xs ∧
  (HT.sIx xs.length 0 lo = 0 ∧ HT.sIx xs.length xs.length hi = xs.length → Q (.ref a) H) ∧
  (¬ (HT.sIx xs.length 0 lo = 0 ∧ HT.sIx xs.length xs.length hi = xs.length) → ∀ (p : Addr) (o : Obj), H p = none → o.dict = none → Q (.ref p) (upd H p (.frz o (.tup (cutV xs lo hi)))))
theorem sl_tupF : SlR X (rSlF X.K) := by
  intro pins s σ H x v vl vu lo hi sl Q I rx hs pl pu h
  obtain ⟨a, xs, rfl, hx, q1, q2⟩ := h
  cases rx
  obtain ⟨its, r, ht, hz⟩ := I.tuple hx
  have hlen : its.toArray.size = xs.length := by rw [List.size_toArray]; exact r.length.symm
  refine ⟨"tuple", _, PyProof.Rows.slot_tuple_getitem.lookup, ht.typeIs, ?_⟩
  by_cases hw : HT.sIx xs.length 0 lo = 0 ∧ HT.sIx xs.length xs.length hi = xs.length
  · exact getItem_tuple_whole ht hs pl pu (by rw [hlen]; exact hw) ⟨.ref a, H, I, rfl, q1 hw⟩
  · refine HT.getItem_tuple_cut ht hs pl pu (by rw [hlen]; exact hw) ?_ (by rw [hlen]; exact hz)
    rw [hlen]
    exact ⟨.ref s.heap.objs.size, _, laidT (t' := s.toks) I (Nat.le_trans (cutV_length xs lo hi) hz) ((r.drop (HT.sIx xs.length 0 lo)).take (HT.sIx xs.length xs.length hi - HT.sIx xs.length 0 lo)), rfl, q2 hw _ _ (I.hok.fresh (Nat.le_refl _)) rfl⟩
def tTupRgF (te : St → Hp → (Int → Int → Hp → Prop) → Prop) : TE := fun σ H Q => te σ H fun a b H1 => RgOk a b ∧ ∀ (q : Addr) (o : Obj), H1 q = none → o.dict = none → Q (.ref q) (upd H1 q (.frz o (.tup (rgV a b))))
open PyProof.Rows in
theorem pe_tupRgF {e : Expr} {te : L2.St → Hp → (Int → Int → Hp → Prop) → Prop} {p pos : Pos} (hc : X.calm = true) (hg : Gl X "tuple") (hm : X.mg "tuple" = none) (he : PRg X e te) (na : starEach [e] X.env = (false, eval e X.env) :: starEach [] X.env := by rfl) : PE X (.Call (.Name "tuple" p) [e] [] pos) (tTupRgF te) := by
  refine ⟨fun pins s σ H Q I h => ?_⟩
  refine Call_ (ld_blt I hg hm boot_tuple (PyProof.Rows.callWith_type1 (args_cons (thn (he pins s σ H _ I h) fun x s1 ⟨r, a, b, t, u, v, H1, ex, hr, I1, ok, q⟩ => args_nil ?_) na) na))
  subst ex
  obtain ⟨b1, b2, b3, b4, b5⟩ := ok
  refine call_tuple_range (n := (b - a).toNat) (I1.ok.hd hc) hr (small_one b1 b2 b3 b4) (rangeSize_nat a b) b5 fun h' tk acc hk hi => ?_
  have I2 : L2.Inv X pins σ H1 { s1 with heap := h', toks := tk } := I1.kept hk
  have e : exO acc.toList = { cls := .type "tuple", data := .seq acc } := by unfold exO; rw [Array.toArray_toList]
  have L := laidT (t' := tk) I2 (xs := rgV a b) (us := acc.toList) (by rw [rgV_length, sizeLine_eq]; omega) (vals_rg hi)
  rw [e] at L
  exact ⟨.ref h'.objs.size, _, L, rfl, q _ _ (I2.hok.fresh (Nat.le_refl _)) rfl⟩
end
end NH

set_option Elab.async false
set_option linter.all false
set_option maxRecDepth 100000
set_option maxHeartbeats 1000000
set_option autoImplicit false
namespace NH
open PySem L2

def Grow (H H' : Hp) : Prop := H' = H ∨ ∃ p u, H p = none ∧ H' = upd H p u
/-- what an operation comes to -/
def Res (K : PySem.W.Frag) (g : Gh) (H : Hp) (r : R) (v : V) (H' : Hp) : Prop := Grow H H' ∧ match r with
  | .val d => Rep K g H' d v
  | .new o => ∃ p, v = .ref p ∧ H p = none ∧ RepO K g H' o p
  | .slot _ => False
section
variable {K : PySem.W.Frag} {g g' g'' : Gh} {S S' S'' : Sta} {σ : St} {H0 H H' H'' : Hp} {X : Cx}
theorem Grow.po (r : Rel K g S σ H) (h : Grow H H') : Po K g S σ H g S H' := by
  rcases h with rfl | ⟨p, u, hp, rfl⟩
  · exact .refl r
  · exact .fresh r hp
theorem Res.fin {r : R} {v : V} (rl : Rel K g S σ H) (h : Res K g H r v H') : Po K g S σ H g S H' ∧ RepR K g S σ H H' r v := by
  obtain ⟨hg, h⟩ := h
  refine ⟨hg.po rl, ?_⟩
  cases r with
  | val d => exact h
  | slot i => exact h.elim
  | new o =>
    obtain ⟨p, rfl, hp, ho⟩ := h
    obtain ⟨h1, h2⟩ := rl.notNew hp
    exact ⟨p, rfl, ho, hp, h1, h2⟩
theorem Res.same {d : D} {v : V} (h : Rep K g H d v) : Res K g H (.val d) v H := ⟨.inl rfl, h⟩
theorem Res.int (i : Int) : Res K g H (.val (.int i)) (.int i) H := .same rfl
theorem Res.bl (b : Bool) : Res K g H (.val (.bl b)) (.bl b) H := .same rfl
theorem Res.str (x : Str) : Res K g H (.val (.str x)) (.str x) H := .same rfl
theorem Res.tup {p : Addr} {ds : List D} {vs : List V} {o : Obj} (hp : H p = none) (ho : o.dict = none) (h : RepAll K g H ds vs) : Res K g H (.val (.tup ds)) (.ref p) (upd H p (.frz o (.tup vs))) := ⟨.inr ⟨p, _, hp, rfl⟩, .tupNew hp ho h⟩
theorem Res.lst {p : Addr} {ds : List D} {vs : List V} (hp : H p = none) (h : RepAll K g H ds vs) : Res K g H (.new (.lst ds)) (.ref p) (upd H p (.lst vs)) :=
  ⟨.inr ⟨p, _, hp, rfl⟩, p, rfl, hp, vs, upd_same, h.stay (Stay.fresh hp)⟩
theorem RepAll.length : ∀ {ds : List D} {vs : List V}, RepAll K g H ds vs → vs.length = ds.length
  | [], _, h => by unfold RepAll at h; subst h; rfl
  | d :: ds, _, h => by
    unfold RepAll at h
    obtain ⟨v, r, rfl, _, h⟩ := h
    simp [RepAll.length h]
theorem RepAll.append : ∀ {ds es : List D} {vs ws : List V}, RepAll K g H ds vs → RepAll K g H es ws → RepAll K g H (ds ++ es) (vs ++ ws)
  | [], _, _, _, h, k => by unfold RepAll at h; subst h; exact k
  | d :: ds, _, _, _, h, k => by
    unfold RepAll at h
    obtain ⟨v, r, rfl, h1, h⟩ := h
    show RepAll K g H (d :: (ds ++ _)) (v :: (r ++ _))
    unfold RepAll
    exact ⟨v, _, rfl, h1, h.append k⟩
theorem RepAll.get : ∀ {ds : List D} {vs : List V} {i : Nat} {d : D}, RepAll K g H ds vs → ds[i]? = some d → ∃ v, vs[i]? = some v ∧ Rep K g H d v
  | [], _, i, d, h, e => by simp at e
  | x :: ds, _, 0, d, h, e => by
    unfold RepAll at h
    obtain ⟨v, r, rfl, h1, h⟩ := h
    simp at e; subst e
    exact ⟨v, rfl, h1⟩
  | x :: ds, _, i + 1, d, h, e => by
    unfold RepAll at h
    obtain ⟨v, r, rfl, h1, h⟩ := h
    obtain ⟨w, h2, h3⟩ := RepAll.get (i := i) h (by simpa using e)
    exact ⟨w, by simpa using h2, h3⟩
theorem RepAll.take : ∀ {ds : List D} {vs : List V} (n : Nat), RepAll K g H ds vs → RepAll K g H (ds.take n) (vs.take n)
  | _, _, 0, _ => by simp [RepAll]
  | [], _, n + 1, h => by unfold RepAll at h; subst h; simp [RepAll]
  | d :: ds, _, n + 1, h => by
    unfold RepAll at h
    obtain ⟨v, r, rfl, h1, h⟩ := h
    simp only [List.take_succ_cons]
    unfold RepAll
    exact ⟨v, _, rfl, h1, h.take n⟩
theorem RepAll.drop : ∀ {ds : List D} {vs : List V} (n : Nat), RepAll K g H ds vs → RepAll K g H (ds.drop n) (vs.drop n)
  | _, _, 0, h => h
  | [], _, n + 1, h => by unfold RepAll at h; subst h; simp [RepAll]
  | d :: ds, _, n + 1, h => by
    unfold RepAll at h
    obtain ⟨v, r, rfl, h1, h⟩ := h
    simpa using h.drop n
theorem RepAll.rep {ds : List D} {vs : List V} (h : RepAll K g H ds vs) : ∀ k : Nat, RepAll K g H (List.replicate k ds).flatten (List.replicate k vs).flatten
  | 0 => by simp [RepAll]
  | k + 1 => by
    rw [List.replicate_succ, List.replicate_succ, List.flatten_cons, List.flatten_cons]
    exact h.append (h.rep k)
theorem RepAll.set {d : D} {v : V} (hd : Rep K g H d v) : ∀ {ds : List D} {vs : List V} (i : Nat), RepAll K g H ds vs → RepAll K g H (ds.set i d) (vs.set i v)
  | [], _, i, h => by unfold RepAll at h; subst h; simp [RepAll]
  | x :: ds, _, 0, h => by
    unfold RepAll at h
    obtain ⟨w, r, rfl, h1, h⟩ := h
    simp only [List.set_cons_zero]
    unfold RepAll
    exact ⟨v, r, rfl, hd, h⟩
  | x :: ds, _, i + 1, h => by
    unfold RepAll at h
    obtain ⟨w, r, rfl, h1, h⟩ := h
    simp only [List.set_cons_succ]
    unfold RepAll
    exact ⟨w, _, rfl, h1, RepAll.set hd i h⟩
theorem RepAll.eraseIdx : ∀ {ds : List D} {vs : List V} (i : Nat), RepAll K g H ds vs → RepAll K g H (ds.eraseIdx i) (vs.eraseIdx i)
  | [], _, i, h => by unfold RepAll at h; subst h; simp [RepAll]
  | x :: ds, _, 0, h => by
    unfold RepAll at h
    obtain ⟨w, r, rfl, h1, h⟩ := h
    simpa using h
  | x :: ds, _, i + 1, h => by
    unfold RepAll at h
    obtain ⟨w, r, rfl, h1, h⟩ := h
    simp only [List.eraseIdx_cons_succ]
    unfold RepAll
    exact ⟨w, _, rfl, h1, RepAll.eraseIdx i h⟩
theorem RepAll.dropLast : ∀ {ds : List D} {vs : List V}, RepAll K g H ds vs → RepAll K g H ds.dropLast vs.dropLast := fun {ds vs} h => by
  rw [List.dropLast_eq_take, List.dropLast_eq_take, h.length]
  exact h.take _
theorem RepAll.nil_iff {ds : List D} {vs : List V} (h : RepAll K g H ds vs) : vs = [] ↔ ds = [] := by
  have e := h.length
  constructor
  · intro z; subst z; exact List.eq_nil_of_length_eq_zero e.symm
  · intro z; subst z; exact List.eq_nil_of_length_eq_zero e
theorem RepAll.one {d : D} {vs : List V} (h : RepAll K g H [d] vs) : ∃ v, vs = [v] ∧ Rep K g H d v := by
  simp only [RepAll] at h
  obtain ⟨v, r, rfl, h1, rfl⟩ := h
  exact ⟨v, rfl, h1⟩
theorem RepAll.cut {ds : List D} {vs : List V} (h : RepAll K g H ds vs) (lo hi : Option Int) : RepAll K g H (cutD ds lo hi) (cutV vs lo hi) := by
  unfold cutD cutV
  rw [h.length]
  exact (h.drop _).take _
/-- the exact object of a list that is read -/
theorem rd_lst {pins : List (Addr × Obj)} {s : Shared} {a : Addr} {xs : List V} (I : L2.Inv X pins σ H s) (h : Rd H a (.lst xs)) :
    xs.length ≤ sizeLine ∧ ∃ (its : List Value) (n : Nat), Vals xs its ∧ xs.length = its.length ∧ s.heap.get? a = some { cls := .type "list", data := .seq its.toArray n } := by
  obtain ⟨z, its, n, r, e⟩ := h.ok I.hok
  exact ⟨z, its, n, r, r.length, e⟩

/-! ### + - * .. -/
def bop : Bop → Operator
  | .add => .Add
  | .sub => .Sub
  | .mul => .Mult
  | .mod => .Mod
  | .fdiv => .FloorDiv
  | .pow => .Pow
def rBin (K : PySem.W.Frag) (op : Bop) : R2 := fun x y H Q => ∃ g a b r, RepC K g H a x ∧ RepC K g H b y ∧ binCt op a b = some r ∧ ∀ v H', Res K g H r v H' → Q v H'
theorem op_catR : OpR X (binaryOp .Add) (fun x y H Q => ∃ l b xs zs, x = .ref l ∧ y = .ref b ∧ Rd H l (.lst xs) ∧ Rd H b (.lst zs) ∧ xs.length + zs.length ≤ sizeLine ∧ ∀ p, H p = none → Q (.ref p) (upd H p (.lst (xs ++ zs)))) := by
  intro pins s σ H x y v u Q I rx ry h
  obtain ⟨l, b, xs, zs, rfl, rfl, hH, hB, hz, q⟩ := h
  cases rx
  cases ry
  obtain ⟨z, its, n, r, hl, e⟩ := rd_lst I hH
  obtain ⟨z2, its2, n2, r2, hl2, e2⟩ := rd_lst I hB
  refine PySem.P.add_list e e2 ?_ (by rw [List.size_toArray, List.size_toArray]; omega)
  have ea : its.toArray ++ its2.toArray = (its ++ its2).toArray := by simp
  rw [ea]
  exact ⟨.ref _, _, I.lnew (t' := s.toks) (r.append r2) (by rw [List.length_append]; omega), rfl, q _ I.fresh⟩
open PySem.Spec PyProof.Rows in
theorem op_repR : OpR X (binaryOp .Mult) (fun x y H Q => ∃ l k xs, x = .ref l ∧ y = .int k ∧ Rd H l (.lst xs) ∧ -(2 ^ 63) ≤ k ∧ k < 2 ^ 63 ∧ xs.length * k.toNat ≤ sizeLine ∧
  ∀ p, H p = none → Q (.ref p) (upd H p (.lst (List.replicate k.toNat xs).flatten))) := by
  intro pins s σ H x y v u Q I rx ry h
  obtain ⟨l, k, xs, rfl, rfl, hH, h1, h2, hz, q⟩ := h
  cases rx
  obtain ⟨t, rfl⟩ := ry
  obtain ⟨z, its, n, r, hl, e⟩ := rd_lst I hH
  have hlen : its.toArray.size * k.toNat ≤ sizeLine := by rw [List.size_toArray, ← hl]; exact hz
  have hcap : ¬ its.toArray.size * k.toNat > (2 ^ 63 - 1) / 8 := by
    have : (sizeLine : Nat) ≤ (2 ^ 63 - 1) / 8 := by decide
    omega
  have hfit : ¬ (!Builtin.List.listFitsIndex k) = true := by
    rw [fitsIndex_both h1 h2]
    exact Bool.false_ne_true
  have hlong : ¬ Builtin.List.listTooLong (its.toArray.size * k.toNat) = true := by
    rw [notLongL hlen]
    exact Bool.false_ne_true
  have hnew : List.foldl (fun x1 x2 => x1 ++ x2) #[] (List.replicate (if its.toArray.isEmpty = true then 0 else k.toNat) its.toArray) = (List.replicate k.toNat its).flatten.toArray := by
    have f0 : ∀ m : Nat, List.foldl (fun x1 x2 => x1 ++ x2) #[] (List.replicate m its.toArray) = (List.replicate m its).flatten.toArray := fun m => by
      have := foldl_rep its m []
      rw [List.nil_append] at this
      exact this
    rw [f0]
    cases its with
    | nil => simp
    | cons a r' => rw [if_neg (by simp)]
  refine wpAny_binaryOp_repeat_ref (T := "list") (U := "int") (by decide) ⟨_, e, rfl⟩ (fun s' => typeIs_int s' k t) noFill_list_mul F.fills_int_mul F.slot_int_rmul repeat_list F.slot_int_index.lookup
    (call_meets F.slot_int_rmul (typeIs_int s k t) F.entry_int_rmul (F.args_int_rmul_2 _ _) (int___rmul___int_list k t l its.toArray n)
      ⟨e, rfl, ⟨_, e, rfl⟩, call_meets F.slot_list_mul ⟨_, e, rfl⟩ F.entry_list_mul (F.args_list_mul_2 _ _) (AutoListH.list___mul___list_int_3 l its.toArray n k t hfit hcap hlong) ⟨e, ?_⟩⟩)
  rw [hnew]
  exact ⟨.ref _, _, I.lnew (t' := s.toks) (r.rep k.toNat) (by rw [PyProof.Rows.lm_len_rep_flat, Nat.mul_comm]; exact hz), rfl, q _ I.fresh⟩

theorem op_bin (op : Bop) : OpR X (binaryOp (bop op)) (rBin X.K op) := by
  intro pins s σ H x y v u Q I rx ry h
  obtain ⟨g, a, b, r, ha, hb, e, q⟩ := h
  cases a with
  | d a =>
    cases b with
    | d b =>
      cases a <;> cases b <;> try (simp [binCt] at e; done)
      · -- ints
        rename_i i j
        have ha : x = .int i := ha
        have hb : y = .int j := hb
        obtain ⟨k, hk, rfl⟩ := Option.map_eq_some_iff.mp (show (binInt op i j).map (fun k => R.val (.int k)) = some r from e)
        have fin : Q (.int k) H := q _ _ (.int k)
        cases op with
        | add => cases hk; exact op_add pins s σ H x y v u Q I rx ry ⟨i, j, ha, hb, fin⟩
        | sub => cases hk; exact op_sub pins s σ H x y v u Q I rx ry ⟨i, j, ha, hb, fin⟩
        | mul =>
          simp only [binInt] at hk
          split at hk
          · rename_i c; cases hk; exact op_mul pins s σ H x y v u Q I rx ry ⟨i, j, ha, hb, dc_iff.mp c, fin⟩
          · cases hk
        | mod =>
          simp only [binInt] at hk
          split at hk
          · rename_i c; cases hk; exact op_mod pins s σ H x y v u Q I rx ry ⟨i, j, ha, hb, dc_iff.mp c, fin⟩
          · cases hk
        | fdiv =>
          simp only [binInt] at hk
          split at hk
          · rename_i c; cases hk; exact op_fdiv pins s σ H x y v u Q I rx ry ⟨i, j, ha, hb, dc_iff.mp c, fin⟩
          · cases hk
        | pow =>
          simp only [binInt] at hk
          split at hk
          · rename_i c; cases hk; exact op_pow pins s σ H x y v u Q I rx ry ⟨i, j, ha, hb, dc_iff.mp c, fin⟩
          · cases hk
      · -- texts
        rename_i i j
        have ha : x = .str i := ha
        have hb : y = .str j := hb
        cases op <;> simp only [binCt] at e <;> try (cases e; done)
        split at e
        · rename_i c; cases e; exact op_add_str pins s σ H x y v u Q I rx ry ⟨i, j, ha, hb, c, q _ _ (.str _)⟩
        · cases e
      · -- tuples
        rename_i ds es
        cases op <;> simp only [binCt] at e <;> try (cases e; done)
        split at e
        · rename_i c
          cases e
          have ha' : Rep X.K g H (.tup ds) x := ha
          have hb' : Rep X.K g H (.tup es) y := hb
          unfold Rep at ha' hb'
          obtain ⟨p1, vs, rfl, h1, h2⟩ := ha'
          obtain ⟨p2, ws, rfl, h3, h4⟩ := hb'
          refine op_catF pins s σ H _ _ v u Q I rx ry ⟨p1, p2, vs, ws, rfl, rfl, h1.sq, h3.sq, by rw [h2.length, h4.length]; exact c, fun z => ?_, fun _ z => ?_, fun _ _ p o hp ho => ?_⟩
          · have : ds = [] := h2.nil_iff.mp z
            subst this
            exact q _ _ (.same hb)
          · have : es = [] := h4.nil_iff.mp z
            subst this
            rw [List.append_nil] at q
            exact q _ _ (.same ha)
          · exact q _ _ (.tup hp ho (h2.append h4))
        · cases e
    | o b => cases a <;> cases b <;> simp [binCt] at e
  | o a =>
    cases a with
    | lst ds =>
      obtain ⟨p1, vs, rfl, h1, h2⟩ := ha
      cases b with
      | d b =>
        cases b <;> try (simp [binCt] at e; done)
        rename_i k
        have hb : y = .int k := hb
        cases op <;> simp only [binCt] at e <;> try (cases e; done)
        split at e
        · rename_i c0
          have c := dc_iff.mp c0
          cases e
          exact op_repR pins s σ H _ _ v u Q I rx ry ⟨p1, k, vs, rfl, hb, h1, c.1, c.2.1, by rw [h2.length]; exact c.2.2, fun p hp => q _ _ (.lst hp (h2.rep _))⟩
        · cases e
      | o b =>
        cases b <;> try (simp [binCt] at e; done)
        rename_i es
        obtain ⟨p2, ws, rfl, h3, h4⟩ := hb
        cases op <;> simp only [binCt] at e <;> try (cases e; done)
        split at e
        · rename_i c
          cases e
          exact op_catR pins s σ H _ _ v u Q I rx ry ⟨p1, p2, vs, ws, rfl, rfl, h1, h3, by rw [h2.length, h4.length]; exact c, fun p hp => q _ _ (.lst hp (h2.append h4))⟩
        · cases e
    | dk ds => cases b <;> simp [binCt] at e
    | dt ds => cases b <;> simp [binCt] at e
    | ins c ds => cases b <;> simp [binCt] at e

/-! ### == and the others -/
mutual
theorem Rep.dp : ∀ (d : D) (v : V), d.pure = true → Rep K g H d v → Dp K H v d.py
  | .non, _, _, h => by unfold Rep at h; subst h; exact .non
  | .bl b, _, _, h => by unfold Rep at h; subst h; exact .bl b
  | .int b, _, _, h => by unfold Rep at h; subst h; exact .int b
  | .str b, _, _, h => by unfold Rep at h; subst h; exact .str b
  | .tup ds, _, p, h => by
    unfold Rep at h
    obtain ⟨a, vs, rfl, h1, h2⟩ := h
    unfold D.py
    exact .tup h1.sq (RepAll.dp ds vs (by simpa [D.pure] using p) h2)
  | .lst ds, _, p, h => by
    unfold Rep at h
    obtain ⟨a, vs, rfl, ⟨o, h1⟩, h2⟩ := h
    unfold D.py
    exact .lst (.inl (.inr ⟨o, h1⟩)) (RepAll.dp ds vs (by simpa [D.pure] using p) h2)
  | .klst _, _, p, _ => by simp [D.pure] at p
  | .ref _, _, p, _ => by simp [D.pure] at p
theorem RepAll.dp : ∀ (ds : List D) (vs : List V), D.pures ds = true → RepAll K g H ds vs → DpAll K H vs (D.pys ds)
  | [], _, _, h => by unfold RepAll at h; subst h; exact .nil
  | d :: ds, _, p, h => by
    unfold RepAll at h
    obtain ⟨v, r, rfl, h1, h2⟩ := h
    have p' : d.pure = true ∧ D.pures ds = true := by simpa [D.pures] using p
    unfold D.pys
    exact .cons (Rep.dp d v p'.1 h1) (RepAll.dp ds r p'.2 h2)
end
theorem RepC.dp {c : Ct} {d : D} {v : V} (h : RepC K g H c v) (e : ctD c = some d) (p : d.pure = true) : Dp K H v d.py := by
  cases c with
  | d d' => cases e; exact Rep.dp _ _ p h
  | o o =>
    cases o <;> simp [ctD] at e
    subst e
    obtain ⟨a, vs, rfl, h1, h2⟩ := h
    unfold D.py
    exact .lst (.inl h1) (RepAll.dp _ vs (by simpa [D.pure] using p) h2)
mutual
theorem eqb_py : ∀ (d e : D), d.pure = true → e.pure = true → d.eqb e = PyData.eqv d.py e.py
  | .non, e, _, _ => by cases e <;> first | rfl | simp_all [D.eqb, D.py, PyData.eqv, D.pure]
  | .bl b, e, _, _ => by cases e <;> first | rfl | simp_all [D.eqb, D.py, PyData.eqv, D.pure]
  | .int b, e, _, _ => by cases e <;> first | rfl | simp_all [D.eqb, D.py, PyData.eqv, D.pure]
  | .str b, e, _, _ => by cases e <;> first | rfl | simp_all [D.eqb, D.py, PyData.eqv, D.pure]
  | .tup ds, e, p, q => by
    cases e <;> first | rfl | (simp_all [D.eqb, D.py, PyData.eqv, D.pure]; done) | skip
    rename_i es
    simp only [D.eqb, D.py, PyData.eqv]
    exact eqbs_py ds es (by simpa [D.pure] using p) (by simpa [D.pure] using q)
  | .lst ds, e, p, q => by
    cases e <;> first | rfl | (simp_all [D.eqb, D.py, PyData.eqv, D.pure]; done) | skip
    rename_i es
    simp only [D.eqb, D.py, PyData.eqv]
    exact eqbs_py ds es (by simpa [D.pure] using p) (by simpa [D.pure] using q)
  | .klst _, _, p, _ => by simp [D.pure] at p
  | .ref _, _, p, _ => by simp [D.pure] at p
theorem eqbs_py : ∀ (ds es : List D), D.pures ds = true → D.pures es = true → D.eqbs ds es = PyData.eqvAll (D.pys ds) (D.pys es)
  | [], [], _, _ => by simp [D.eqbs, D.pys, PyData.eqvAll]
  | [], e :: es, _, _ => by simp [D.eqbs, D.pys, PyData.eqvAll]
  | d :: ds, [], _, _ => by simp [D.eqbs, D.pys, PyData.eqvAll]
  | d :: ds, e :: es, p, q => by
    have p' : d.pure = true ∧ D.pures ds = true := by simpa [D.pures] using p
    have q' : e.pure = true ∧ D.pures es = true := by simpa [D.pures] using q
    simp only [D.eqbs, D.pys, PyData.eqvAll, eqb_py d e p'.1 q'.1, eqbs_py ds es p'.2 q'.2]
end
theorem pys_map : ∀ ds : List D, D.pys ds = ds.map D.py
  | [] => by simp [D.pys]
  | d :: ds => by simp [D.pys, pys_map ds]
theorem pures_mem : ∀ {ds : List D}, D.pures ds = true → ∀ d ∈ ds, d.pure = true
  | [], _, _, h => by simp at h
  | d :: ds, p, e, h => by
    have p' : d.pure = true ∧ D.pures ds = true := by simpa [D.pures] using p
    rcases List.mem_cons.mp h with rfl | h
    · exact p'.1
    · exact pures_mem p'.2 e h
theorem any_py {d : D} (hd : d.pure = true) : ∀ {ds : List D}, D.pures ds = true → ((D.pys ds).any fun z => PyData.eqv z d.py) = ds.any fun z => z.eqb d
  | [], _ => by simp [D.pys]
  | e :: ds, p => by
    have p' : e.pure = true ∧ D.pures ds = true := by simpa [D.pures] using p
    simp only [D.pys, List.any_cons, any_py hd p'.2, eqb_py e d p'.1 hd]
theorem eqOk_iff {d : D} (h : d.eqOk = true) : d.pure = true ∧ SeqAt.shaped d.py = true := by
  unfold D.eqOk at h
  simpa using h
theorem Rep.flatV {d : D} {v : V} (h : Rep K g H d v) (f : d.flat = true) : L2.flatV v = true := by
  cases d <;> simp [D.flat] at f <;> (unfold Rep at h; subst h; rfl)
theorem Rep.eqV {d e : D} {v w : V} (h : Rep K g H d v) (k : Rep K g H e w) (f : d.flat = true) (f' : e.flat = true) : L2.eqV v w = d.eqb e := by
  cases d <;> simp [D.flat] at f <;> cases e <;> simp [D.flat] at f' <;> (unfold Rep at h k; subst h; subst k; simp [L2.eqV, D.eqb])
theorem any_flat {d : D} {v : V} (h : Rep K g H d v) (f : d.flat = true) : ∀ {ds : List D} {vs : List V}, RepAll K g H ds vs → ds.all D.flat = true → vs.all L2.flatV = true ∧ L2.inV v vs = ds.any fun z => z.eqb d
  | [], _, k, _ => by unfold RepAll at k; subst k; exact ⟨rfl, rfl⟩
  | e :: ds, _, k, fl => by
    unfold RepAll at k
    obtain ⟨w, r, rfl, h1, h2⟩ := k
    have fl' : e.flat = true ∧ ds.all D.flat = true := by simpa using fl
    obtain ⟨i1, i2⟩ := any_flat h f h2 fl'.2
    refine ⟨by simp [h1.flatV fl'.1, i1], ?_⟩
    have i2' : (r.any fun y => L2.eqV y v) = ds.any fun z => z.eqb d := i2
    simp only [L2.inV, List.any_cons, i2', h1.eqV h fl'.1 f]
theorem RepKV.look {κ : Type} [DecidableEq κ] (k : κ) : ∀ {kvs : List (κ × D)} {ks : List (κ × V)}, RepKV K g H kvs ks → (∀ d, lookD kvs k = some d → ∃ v, valV ks k = some v ∧ Rep K g H d v) ∧ (lookD kvs k = none → valV ks k = none)
  | [], _, h => by unfold RepKV at h; subst h; exact ⟨fun d e => by simp [lookD] at e, fun _ => rfl⟩
  | p :: kvs, _, h => by
    unfold RepKV at h
    obtain ⟨v, r, rfl, h1, h2⟩ := h
    obtain ⟨i1, i2⟩ := RepKV.look k h2
    by_cases e : p.1 = k
    · refine ⟨fun d q => ?_, fun q => ?_⟩
      · have : lookD (p :: kvs) k = some p.2 := by simp [lookD, List.find?_cons, e]
        rw [this] at q; cases q
        exact ⟨v, valV_pos e, h1⟩
      · simp [lookD, List.find?_cons, e] at q
    · have e1 : lookD (p :: kvs) k = lookD kvs k := by simp [lookD, List.find?_cons, e]
      rw [e1, valV_neg (p := (p.1, v)) e]
      exact ⟨i1, i2⟩
theorem Rep.key {d : D} {v : V} {k : Key} (h : Rep K g H d v) (e : keyOf d = some k) : v = kV k := by
  cases d <;> simp [keyOf] at e <;> (subst e; exact h)
theorem ints_rep : ∀ {ds : List D} {vs : List V} {ns : List Int}, RepAll K g H ds vs → intsOf ds = some ns → vs = ns.map V.int
  | [], _, _, h, e => by unfold RepAll at h; subst h; simp [intsOf] at e; subst e; rfl
  | d :: ds, _, ns, h, e => by
    unfold RepAll at h
    obtain ⟨v, r, rfl, h1, h2⟩ := h
    cases d <;> simp [intsOf] at e
    obtain ⟨l, hl, rfl⟩ := e
    have h1 : v = .int _ := h1
    simp [h1, ints_rep h2 hl]
theorem Rep.tkey {d : D} {v : V} {k : List Int} (h : Rep K g H d v) (e : tkeyOf d = some k) : ∃ a, v = .ref a ∧ ExT H a (k.map V.int) := by
  cases d <;> simp [tkeyOf] at e
  unfold Rep at h
  obtain ⟨a, vs, rfl, h1, h2⟩ := h
  exact ⟨a, rfl, by rw [← ints_rep h2 e]; exact h1⟩
/-- what a dict holds by a key -/
theorem dget_k {kvs : List (Key × D)} {a : Addr} {d : D} {v : V} {k : Key} (ho : RepO K g H (.dk kvs) a) (h : Rep K g H d v) (e : keyOf d = some k) :
    ∃ o, DGet H a v o ∧ o.isSome = (lookD kvs k).isSome ∧ ∀ x, lookD kvs k = some x → ∃ w, o = some w ∧ Rep K g H x w := by
  obtain ⟨ks, h1, h2⟩ := ho
  obtain ⟨i1, i2⟩ := RepKV.look k h2
  refine ⟨valV ks k, ?_, ?_, i1⟩
  · rw [h.key e]; exact .k h1
  · cases q : lookD kvs k with
    | none => rw [i2 q]; rfl
    | some x => obtain ⟨w, hw, _⟩ := i1 x q; rw [hw]; rfl
/-! dicts whose keys are tuples of ints -/
theorem isTupKey {P : Program} {w : World} {pins : List (Addr × Obj)} {s : Shared} {a : Addr} {k : List Int} (I : L2.Inv X pins σ H s) (h : ExT H a (k.map V.int)) : (tupleKind (intKind P w)).is s.heap k a := by
  obtain ⟨its, r, ⟨o, h1, h2, n, h3⟩, _⟩ := I.tuple (h.sq (K := X.K))
  refine ⟨o, its.toArray, n, h1, h2, h3, ?_⟩
  have : ∀ {l : List Int} {us : List Value}, Vals (l.map V.int) us → ItemsAre (intKind P w) l us := by
    intro l
    induction l with
    | nil => intro us h; cases h; exact .nil
    | cons x l ih =>
      intro us h
      cases h with
      | cons h1 h2 => obtain ⟨t, rfl⟩ := h1; exact .cons (by simp [intKind, Value.isInt]) (ih h2)
  simpa using this r
theorem RepKT.look (k : List Int) : ∀ {kvs : List (List Int × D)} {xs : List (List Int × Addr × Value)}, RepKT K g H kvs xs → (∀ d, lookD kvs k = some d → ∃ b u v, atKey xs k = some (b, u) ∧ RelV v u ∧ Rep K g H d v) ∧ (lookD kvs k = none → atKey xs k = none)
  | [], _, h => by unfold RepKT at h; subst h; exact ⟨fun d e => by simp [lookD] at e, fun _ => rfl⟩
  | p :: kvs, _, h => by
    unfold RepKT at h
    obtain ⟨b, u, v, r, rfl, h1, h2, h3, h4⟩ := h
    obtain ⟨i1, i2⟩ := RepKT.look k h4
    by_cases e : p.1 = k
    · have e1 : lookD (p :: kvs) k = some p.2 := by simp [lookD, List.find?_cons, e]
      have e2 : atKey ((p.1, b, u) :: r) k = some (b, u) := by simp [atKey, List.find?_cons, e]
      refine ⟨fun d q => ?_, fun q => ?_⟩
      · rw [e1] at q; cases q
        exact ⟨b, u, v, e2, h2, h3⟩
      · rw [e1] at q; cases q
    · have e1 : lookD (p :: kvs) k = lookD kvs k := by simp [lookD, List.find?_cons, e]
      have e2 : atKey ((p.1, b, u) :: r) k = atKey r k := by simp [atKey, List.find?_cons, e]
      rw [e1, e2]
      exact ⟨i1, i2⟩
theorem RepKT.length : ∀ {kvs : List (List Int × D)} {xs : List (List Int × Addr × Value)}, RepKT K g H kvs xs → xs.length = kvs.length
  | [], _, h => by unfold RepKT at h; subst h; rfl
  | a :: b, _, h => by unfold RepKT at h; obtain ⟨b, u, v, r, rfl, _, _, _, h3⟩ := h; simp [RepKT.length h3]
theorem RepKT.keys : ∀ {kvs : List (List Int × D)} {xs : List (List Int × Addr × Value)}, RepKT K g H kvs xs → ∀ x ∈ xs, ExT H x.2.1 (x.1.map V.int)
  | [], _, h, x, hx => by unfold RepKT at h; subst h; simp at hx
  | a :: b, _, h, x, hx => by
    unfold RepKT at h
    obtain ⟨b, u, v, r, rfl, h1, _, _, h3⟩ := h
    rcases List.mem_cons.mp hx with rfl | hx
    · exact h1
    · exact RepKT.keys h3 x hx
theorem dt_at {pins : List (Addr × Obj)} {s : Shared} {kvs : List (List Int × D)} {a : Addr} (I : L2.Inv X pins σ H s) (ho : RepO K g H (.dt kvs) a) :
    ∃ xs, H a = some (.ext (dtP a xs)) ∧ (a == sysModules) = false ∧ kvs.length ≤ sizeLine ∧ RepKT K g H kvs xs ∧ s.heap.DictOfH (tupleKind (intKind X.prog X.w)) a xs := by
  obtain ⟨xs, h1, h0, hz, h2⟩ := ho
  obtain ⟨⟨o, es, ep, q1, q2, q3, q4, q5⟩, _, _⟩ := I.hok a _ h1
  exact ⟨xs, h1, h0, hz, h2, o, es, ep, q1, q2, q3, q4, fun x hx => isTupKey I (h2.keys x hx), q5⟩
end
end NH

set_option Elab.async false
set_option linter.all false
set_option maxRecDepth 100000
set_option maxHeartbeats 1000000
set_option autoImplicit false
namespace NH
open PySem L2
section
variable {K : PySem.W.Frag} {g g' g'' : Gh} {S S' S'' : Sta} {σ : St} {H0 H H' H'' : Hp} {X : Cx}
/-! ### dicts whose keys are tuples of ints, by values -/
section
variable {pins : List (Addr × Obj)} {s : Shared} {a b : Addr} {kvs : List (List Int × D)} {k : List Int} {A : Around} {E : Value → Shared → Prop}
theorem dt_getItem {d : D} {Q : Value → Shared → Prop} (hu : A.units + 1 < cLine) (I : L2.Inv X pins σ H s) (ho : RepO K g H (.dt kvs) a) (hk : ExT H b (k.map V.int)) (e : lookD kvs k = some d)
    (h : ∀ v u s', L2.Inv X pins σ H s' → RelV v u → Rep K g H d v → Q u s') : wpAny (model X.prog X.w) A (getItem (.ref a) (.ref b)) Q E s := by
  obtain ⟨xs, h1, h0, hz, h2, dd⟩ := dt_at I ho
  obtain ⟨b', u, v, hp, hr, hv⟩ := (h2.look k).1 d e
  exact wpAny_getItem_heap (tupleKind_room_in1 hu) (isTupKey I hk) dd hp (h v u _ (I.tok _) hr hv)
theorem dt_isSome {xs : List (List Int × Addr × Value)} (h2 : RepKT K g H kvs xs) : (atKey xs k).isSome = (lookD kvs k).isSome := by
  cases q : lookD kvs k with
  | none => rw [(h2.look k).2 q]; rfl
  | some d => obtain ⟨_, _, _, hp, _⟩ := (h2.look k).1 d q; rw [hp]; rfl
theorem dt_in {Q : Value → Shared → Prop} (hu : A.units + 1 < cLine) (I : L2.Inv X pins σ H s) (ho : RepO K g H (.dt kvs) a) (hk : ExT H b (k.map V.int)) (h : ∀ s', L2.Inv X pins σ H s' → Q (.bool (lookD kvs k).isSome) s') :
    wpAny (model X.prog X.w) A (compareOp .In (.ref b) (.ref a)) Q E s := by
  obtain ⟨xs, h1, h0, hz, h2, dd⟩ := dt_at I ho
  refine wpAny_in_heap (tupleKind_room_in1 hu) (isTupKey I hk) h0 dd ?_
  rw [dt_isSome h2]
  exact h _ (I.tok _)
theorem dt_notIn {Q : Value → Shared → Prop} (hu : A.units + 1 < cLine) (I : L2.Inv X pins σ H s) (ho : RepO K g H (.dt kvs) a) (hk : ExT H b (k.map V.int)) (h : ∀ s', L2.Inv X pins σ H s' → Q (.bool (!(lookD kvs k).isSome)) s') :
    wpAny (model X.prog X.w) A (compareOp .NotIn (.ref b) (.ref a)) Q E s := by
  obtain ⟨xs, h1, h0, hz, h2, dd⟩ := dt_at I ho
  refine PyProof.Rows.wpAny_notIn_heap (tupleKind_room_in1 hu) (isTupKey I hk) h0 dd ?_
  rw [dt_isSome h2]
  exact h _ (I.tok _)
theorem dt_get2 {Q : Value → Shared → Prop} {e : D} {w : V} {r : Value} (hu : A.units + 1 < cLine) (I : L2.Inv X pins σ H s) (ho : RepO K g H (.dt kvs) a) (hk : ExT H b (k.map V.int)) (re : Rep K g H e w) (rr : RelV w r)
    (h : ∀ v u s', L2.Inv X pins σ H s' → RelV v u → Rep K g H ((lookD kvs k).getD e) v → Q u s') : wpAny (model X.prog X.w) A (call (.builtin "dict.get") [.ref a, .ref b, r]) Q E s := by
  obtain ⟨xs, h1, h0, hz, h2, dd⟩ := dt_at I ho
  refine call_meetsIn PySem.F.slot_dict_get dd.typeIs PySem.F.entry_dict_get (PySem.F.args_dict_get_3 _ _ _) (meetsH_dict_get_default (tupleKind (intKind X.prog X.w)) a b h0 r) ⟨tupleKind_room_in1 hu, k, xs, isTupKey I hk, dd, ?_⟩
  cases q : lookD kvs k with
  | none =>
    rw [(h2.look k).2 q]
    exact h w r _ (I.tok _) rr (by rw [q]; exact re)
  | some d =>
    obtain ⟨b', u, v, hp, hr, hv⟩ := (h2.look k).1 d q
    rw [hp]
    exact h v u _ (I.tok _) hr (by rw [q]; exact hv)
end
def cop : Cop → CmpOp
  | .eq => .Eq
  | .ne => .NotEq
  | .lt => .Lt
  | .le => .LtE
  | .gt => .Gt
  | .ge => .GtE
  | .isin => .In
  | .notin => .NotIn
  | .isn => .Is
  | .notn => .IsNot
def rCmp (K : PySem.W.Frag) (op : Cop) : R2 := fun x y H Q => ∃ g a b k, RepC K g H a x ∧ RepC K g H b y ∧ cmpCt op a b = some k ∧ Q (.bl k) H
theorem op_isBl : OpR X (compareOp .Is) (fun x y H Q => ∃ i j, x = .bl i ∧ y = .bl j ∧ Q (.bl (i == j)) H) := by
  intro pins s σ H x y v u Q I rx ry h
  obtain ⟨i, j, rfl, rfl, q⟩ := h
  cases rx
  cases ry
  exact PyProof.Rows.is_bool (fin_bl I q rfl)
theorem op_notBl : OpR X (compareOp .IsNot) (fun x y H Q => ∃ i j, x = .bl i ∧ y = .bl j ∧ Q (.bl (!(i == j))) H) := by
  intro pins s σ H x y v u Q I rx ry h
  obtain ⟨i, j, rfl, rfl, q⟩ := h
  cases rx
  cases ry
  exact PyProof.Rows.isnot_bool (fin_bl I q rfl)
theorem RepC.none_iff {c : Ct} {v : V} {k : Bool} (h : RepC K g H c v) (e : cmpCt .isn c (.d .non) = some k) : k = decide (v = .non) := by
  cases c with
  | d d =>
    cases d <;> simp [cmpCt] at e <;> subst e
    all_goals (have h : Rep K g H _ v := h; unfold Rep at h; first | (subst h; rfl) | (obtain ⟨a, vs, rfl, _⟩ := h; rfl))
  | o o =>
    simp [cmpCt] at e; subst e
    cases o
    · obtain ⟨a, vs, rfl, _⟩ := h; rfl
    · obtain ⟨a, rfl, _⟩ := h; rfl
    · obtain ⟨a, rfl, _⟩ := h; rfl
    · obtain ⟨a, rfl, _⟩ := h; rfl
theorem in_ok (hu : X.A.units + 65 < cLine) {pins : List (Addr × Obj)} {s : Shared} {σ : St} {H : Hp} {x y : V} {v u : Value} {a b : Ct} {k : Bool} (neg : Bool) {Q : VK} (I : L2.Inv X pins σ H s) (rx : RelV x v) (ry : RelV y u)
    (ha : RepC X.K g H a x) (hb : RepC X.K g H b y) (e : inCt a b = some k) (q : Q (.bl (if neg = true then !k else k)) H) :
    wpAny (model X.prog X.w) X.A (compareOp (if neg = true then .NotIn else .In) v u) (EP X pins σ Q) X.xe s := by
  have hu1 : X.A.units + 1 < cLine := by omega
  cases b with
  | d b =>
    cases b <;> simp only [inCt, reduceCtorEq] at e
    · -- a text
      rename_i z
      cases a with
      | o o => simp at e
      | d a =>
        cases a <;> simp only [reduceCtorEq] at e
        rename_i w
        cases e
        cases neg
        · exact op_in_str pins s σ H x y v u Q I rx ry ⟨w, z, ha, hb, by simpa using q⟩
        · exact op_notin_str pins s σ H x y v u Q I rx ry ⟨w, z, ha, hb, by simpa using q⟩
    · -- a tuple
      rename_i ys
      split at e
      · rename_i d hd
        split at e
        · rename_i hf
          cases e
          have hf : d.flat = true ∧ ys.all D.flat = true := by simpa using hf
          cases a with
          | o o => cases o <;> simp [ctD] at hd; subst hd; simp [D.flat] at hf
          | d a =>
            cases hd
            have hb' : Rep X.K g H (.tup ys) y := hb
            unfold Rep at hb'
            obtain ⟨p, vs, rfl, h1, h2⟩ := hb'
            have ha : Rep X.K g H d x := ha
            obtain ⟨f1, f2⟩ := any_flat ha hf.1 h2 (by simpa using hf.2)
            cases neg
            · exact op_in_seq pins s σ H x _ v u Q I rx ry ⟨p, vs, rfl, .inr h1.sq, ha.flatV hf.1, f1, by rw [f2]; simpa using q⟩
            · exact op_notIn_seq pins s σ H x _ v u Q I rx ry ⟨p, vs, rfl, .inr h1.sq, ha.flatV hf.1, f1, by rw [f2]; simpa using q⟩
        · cases e
      · cases e
  | o b =>
    cases b with
    | lst ys =>
      simp only [inCt] at e
      split at e
      · rename_i d hd
        split at e
        · rename_i hf
          cases e
          have hf : d.eqOk = true ∧ (D.lst ys).eqOk = true := by simpa using hf
          obtain ⟨p1, s1⟩ := eqOk_iff hf.1
          obtain ⟨p2, s2⟩ := eqOk_iff hf.2
          have d1 := ha.dp hd p1
          have d2 := hb.dp (d := .lst ys) rfl p2
          have eq : ((D.pys ys).any fun z => PyData.eqv z d.py) = ys.any fun z => z.eqb d := any_py p1 (by simpa [D.pure] using p2)
          unfold D.py at d2 s2
          cases neg
          · refine op_inD (by omega) pins s σ H x y v u Q I rx ry ⟨d.py, D.pys ys, d1, d2, s1, s2, ?_⟩
            rw [eq]; simpa using q
          · refine op_notInD (by omega) pins s σ H x y v u Q I rx ry ⟨d.py, D.pys ys, d1, d2, s1, s2, ?_⟩
            rw [eq]; simpa using q
        · cases e
      · cases e
    | dk kvs =>
      obtain ⟨p, rfl, ho⟩ := hb
      cases a with
      | o o => simp [inCt] at e
      | d d =>
        simp only [inCt] at e
        obtain ⟨key, hk, rfl⟩ := Option.map_eq_some_iff.mp e
        obtain ⟨o, g1, g2, _⟩ := dget_k ho ha hk
        cases ry
        cases neg
        · exact d_in hu1 I g1 rx fun s' I' => ⟨.bl _, H, I', rfl, by rw [g2]; simpa using q⟩
        · exact d_notIn hu1 I g1 rx fun s' I' => ⟨.bl _, H, I', rfl, by rw [g2]; simpa using q⟩
    | dt kvs =>
      obtain ⟨p, rfl, ho⟩ := hb
      cases a with
      | o o => simp [inCt] at e
      | d d =>
        simp only [inCt] at e
        obtain ⟨key, hk, rfl⟩ := Option.map_eq_some_iff.mp e
        obtain ⟨b, rfl, hb⟩ := Rep.tkey ha hk
        cases rx
        cases ry
        cases neg
        · exact dt_in hu1 I ho hb fun s' I' => ⟨.bl _, H, I', rfl, by simpa using q⟩
        · exact dt_notIn hu1 I ho hb fun s' I' => ⟨.bl _, H, I', rfl, by simpa using q⟩
    | ins c fs => simp [inCt] at e
theorem op_cmp (hu : X.A.units + 65 < cLine) (op : Cop) : OpR X (compareOp (cop op)) (rCmp X.K op) := by
  intro pins s σ H x y v u Q I rx ry h
  obtain ⟨g, a, b, k, ha, hb, e, q⟩ := h
  have hInts : ∀ {f : Int → Int → Bool}, cmpI f a b = some k → ∃ i j, x = .int i ∧ y = .int j ∧ Q (.bl (f i j)) H := fun {f} e => by
    unfold cmpI at e
    split at e
    · cases e
      exact ⟨_, _, ha, hb, q⟩
    · cases e
  cases op with
  | eq =>
    simp only [cmpCt] at e
    split at e
    · rename_i d d' h1 h2
      split at e
      · rename_i hf
        cases e
        have hf : d.eqOk = true ∧ d'.eqOk = true := by simpa using hf
        obtain ⟨p1, s1⟩ := eqOk_iff hf.1
        obtain ⟨p2, s2⟩ := eqOk_iff hf.2
        exact op_eqD (by omega) pins s σ H x y v u Q I rx ry ⟨_, _, ha.dp h1 p1, hb.dp h2 p2, s1, s2, by rw [← eqb_py d d' p1 p2]; exact q⟩
      · cases e
    · cases e
  | ne =>
    simp only [cmpCt] at e
    split at e
    · rename_i d d' h1 h2
      split at e
      · rename_i hf
        cases e
        have hf : d.eqOk = true ∧ d'.eqOk = true := by simpa using hf
        obtain ⟨p1, s1⟩ := eqOk_iff hf.1
        obtain ⟨p2, s2⟩ := eqOk_iff hf.2
        exact op_neD (by omega) pins s σ H x y v u Q I rx ry ⟨_, _, ha.dp h1 p1, hb.dp h2 p2, s1, s2, by rw [← eqb_py d d' p1 p2]; exact q⟩
      · cases e
    · cases e
  | lt =>
    have e0 : ltCt a b = some k := e
    clear e
    unfold ltCt at e0
    split at e0
    · rename_i xs ys
      obtain ⟨ns, hns, e1⟩ := Option.bind_eq_some_iff.mp e0
      obtain ⟨ms, hms, rfl⟩ := Option.map_eq_some_iff.mp e1
      have ha' : Rep X.K g H (.tup xs) x := ha
      have hb' : Rep X.K g H (.tup ys) y := hb
      unfold Rep at ha' hb'
      obtain ⟨p1, vs, rfl, h1, h2⟩ := ha'
      obtain ⟨p2, ws, rfl, h3, h4⟩ := hb'
      exact op_ltT (by omega) pins s σ H _ _ v u Q I rx ry ⟨p1, p2, ns, ms, rfl, rfl, by rw [← ints_rep h2 hns]; exact h1.sq, by rw [← ints_rep h4 hms]; exact h3.sq, q⟩
    · exact op_lt pins s σ H x y v u Q I rx ry (let ⟨i, j, a1, a2, a3⟩ := hInts e0; ⟨i, j, a1, a2, by rw [dc_eq] at a3; exact a3⟩)
  | le => exact op_le pins s σ H x y v u Q I rx ry (let ⟨i, j, a1, a2, a3⟩ := hInts e; ⟨i, j, a1, a2, by rw [dc_eq] at a3; exact a3⟩)
  | gt => exact op_gt pins s σ H x y v u Q I rx ry (let ⟨i, j, a1, a2, a3⟩ := hInts e; ⟨i, j, a1, a2, by rw [dc_eq] at a3; exact a3⟩)
  | ge => exact op_ge pins s σ H x y v u Q I rx ry (let ⟨i, j, a1, a2, a3⟩ := hInts e; ⟨i, j, a1, a2, by rw [dc_eq] at a3; exact a3⟩)
  | isin => exact in_ok hu false I rx ry ha hb e (by simpa using q)
  | notin =>
    obtain ⟨k', hk, rfl⟩ := Option.map_eq_some_iff.mp (show (inCt a b).map (!·) = some k from e)
    exact in_ok hu true I rx ry ha hb hk (by simpa using q)
  | isn =>
    have hy : b = .d .non ∨ ∃ i j, a = .d (.bl i) ∧ b = .d (.bl j) ∧ k = (i == j) := by cases a with | d a => cases a <;> cases b <;> rename_i b <;> cases b <;> simp [cmpCt] at e <;> (first | exact .inl rfl | exact .inr ⟨_, _, rfl, rfl, e.symm⟩) | o a => cases b <;> rename_i b <;> cases b <;> simp [cmpCt] at e <;> exact .inl rfl
    rcases hy with hy | ⟨i, j, rfl, rfl, rfl⟩
    · subst hy
      have := ha.none_iff e
      subst this
      exact op_isN pins s σ H x y v u Q I rx ry ⟨hb, q⟩
    · exact op_isBl pins s σ H x y v u Q I rx ry ⟨i, j, ha, hb, q⟩
  | notn =>
    have hy : (b = .d .non ∧ cmpCt .isn a (.d .non) = some (!k)) ∨ ∃ i j, a = .d (.bl i) ∧ b = .d (.bl j) ∧ k = !(i == j) := by cases a with | d a => cases a <;> cases b <;> rename_i b <;> cases b <;> simp [cmpCt] at e <;> (first | (subst e; exact .inl ⟨rfl, by simp [cmpCt]⟩) | exact .inr ⟨_, _, rfl, rfl, by rw [e]; simp⟩ | exact .inr ⟨_, _, rfl, rfl, e.symm⟩) | o a => cases b <;> rename_i b <;> cases b <;> simp [cmpCt] at e <;> subst e <;> simp [cmpCt]
    rcases hy with ⟨rfl, e'⟩ | ⟨i, j, rfl, rfl, rfl⟩
    rotate_left
    · exact op_notBl pins s σ H x y v u Q I rx ry ⟨i, j, ha, hb, q⟩
    have := ha.none_iff e'
    refine op_notN pins s σ H x y v u Q I rx ry ⟨hb, ?_⟩
    rw [← this]; simpa using q

/-! ### subscripts and slices -/
def rIdx (K : PySem.W.Frag) : R2 := fun x y H Q => ∃ g a b d, RepC K g H a x ∧ RepC K g H b y ∧ idxCt a b = some d ∧ ∀ v, Rep K g H d v → Q v H
theorem RepAll.atI {ds : List D} {vs : List V} {i : Int} {d : D} (h : RepAll K g H ds vs) (e : L2.atI ds i = some d) : ∃ v, L2.atI vs i = some v ∧ Rep K g H d v := by
  unfold L2.atI at e ⊢
  rw [h.length]
  cases q : ixN ds.length i with
  | none => rw [q] at e; cases e
  | some j =>
    rw [q] at e
    exact h.get e
theorem ix_all (hu : X.A.units + 1 < cLine) : IxR X (rIdx X.K) := by
  intro value slice pins s σ H x y v u Q I rx ry h hs
  obtain ⟨g, a, b, d, ha, hb, e, q⟩ := h
  cases a with
  | d a =>
    cases a <;> cases b <;> rename_i b <;> try (simp [idxCt] at e; done)
    · rename_i z
      cases b <;> simp [idxCt] at e
      obtain ⟨hz, c, hc, rfl⟩ := e
      exact ix_str value slice pins s σ H x y v u Q I rx ry ⟨z, _, c, ha, hb, hz, hc, q _ rfl⟩ hs
    · rename_i ds
      cases b <;> simp [idxCt] at e
      have ha' : Rep X.K g H (.tup ds) x := ha
      unfold Rep at ha'
      obtain ⟨p, vs, rfl, h1, h2⟩ := ha'
      obtain ⟨w, hw, hr⟩ := h2.atI e
      exact ix_tup value slice pins s σ H _ y v u Q I rx ry ⟨p, vs, _, w, rfl, hb, h1.sq, hw, q _ hr⟩ hs
    · rename_i ds
      cases b <;> simp [idxCt] at e
      have ha' : Rep X.K g H (.klst ds) x := ha
      unfold Rep at ha'
      obtain ⟨p, vs, rfl, h1, h2⟩ := ha'
      obtain ⟨w, hw, hr⟩ := h2.atI e
      exact ix_list value slice pins s σ H _ y v u Q I rx ry ⟨p, vs, _, w, rfl, hb, h1.sq, hw, q _ hr⟩ hs
  | o a =>
    cases a with
    | lst ds =>
      cases b <;> rename_i b <;> cases b <;> simp [idxCt] at e
      obtain ⟨p, vs, rfl, h1, h2⟩ := ha
      obtain ⟨w, hw, hr⟩ := h2.atI e
      exact ix_list value slice pins s σ H _ y v u Q I rx ry ⟨p, vs, _, w, rfl, hb, .inl h1, hw, q _ hr⟩ hs
    | dk kvs =>
      cases b with
      | o b => simp [idxCt] at e
      | d b =>
        obtain ⟨p, rfl, ho⟩ := ha
        simp only [idxCt] at e
        obtain ⟨k, hk, he⟩ := Option.bind_eq_some_iff.mp e
        obtain ⟨o, g1, g2, g3⟩ := dget_k ho hb hk
        obtain ⟨w, rfl, hr⟩ := g3 d he
        cases rx
        refine PyProof.Rows.tail_any (dict_typeIs I g1) F.slot_dict_getitem.lookup (d_getItem hu I g1 ry fun w' s' I' rw' => ⟨w, H, I', rw', q w hr⟩) hs
    | dt kvs =>
      cases b with
      | o b => simp [idxCt] at e
      | d b =>
        obtain ⟨p, rfl, ho⟩ := ha
        simp only [idxCt] at e
        obtain ⟨k, hk, he⟩ := Option.bind_eq_some_iff.mp e
        obtain ⟨kb, rfl, hkb⟩ := Rep.tkey hb hk
        cases rx
        cases ry
        obtain ⟨xs, h1, h0, hz, h2, dd⟩ := dt_at I ho
        refine PyProof.Rows.tail_any dd.typeIs F.slot_dict_getitem.lookup (dt_getItem hu I ho hkb he fun v u s' I' rv hv => ⟨v, H, I', rv, q v hv⟩) hs
    | ins c fs => cases b <;> rename_i b <;> simp [idxCt] at e
def rSlc (K : PySem.W.Frag) : V → Option Int → Option Int → Hp → VK → Prop := fun x lo hi H Q => ∃ g a r, RepC K g H a x ∧ slcCt a lo hi = some r ∧ ∀ v H', Res K g H r v H' → Q v H'
theorem cutD_whole {ds : List D} {lo hi : Option Int} (h : HT.sIx ds.length 0 lo = 0 ∧ HT.sIx ds.length ds.length hi = ds.length) : cutD ds lo hi = ds := by
  unfold cutD
  rw [h.1, h.2]
  simp
theorem sl_all : SlR X (rSlc X.K) := by
  intro pins s σ H x v vl vu lo hi sl Q I rx hs pl pu h
  obtain ⟨g, a, r, ha, e, q⟩ := h
  cases a with
  | d a =>
    cases a <;> simp [slcCt] at e <;> subst e
    · rename_i ds
      have ha' : Rep X.K g H (.tup ds) x := ha
      unfold Rep at ha'
      obtain ⟨p, vs, rfl, h1, h2⟩ := ha'
      refine sl_tupF pins s σ H _ v vl vu lo hi sl Q I rx hs pl pu ⟨p, vs, rfl, h1.sq, fun z => ?_, fun _ l o hl ho => q _ _ (.tup hl ho (h2.cut lo hi))⟩
      rw [h2.length] at z
      rw [cutD_whole z] at q
      exact q _ _ (.same ha)
    · rename_i ds
      have ha' : Rep X.K g H (.klst ds) x := ha
      unfold Rep at ha'
      obtain ⟨p, vs, rfl, h1, h2⟩ := ha'
      exact sl_list pins s σ H _ v vl vu lo hi sl Q I rx hs pl pu ⟨p, vs, rfl, h1.sq, fun l hl => q _ _ (.lst hl (h2.cut lo hi))⟩
  | o a =>
    cases a <;> simp [slcCt] at e
    subst e
    obtain ⟨p, vs, rfl, h1, h2⟩ := ha
    exact sl_list pins s σ H _ v vl vu lo hi sl Q I rx hs pl pu ⟨p, vs, rfl, .inl h1, fun l hl => q _ _ (.lst hl (h2.cut lo hi))⟩
end
end NH

set_option Elab.async false
set_option linter.all false
set_option maxRecDepth 100000
set_option maxHeartbeats 1000000
set_option autoImplicit false
namespace NH
open PySem L2
section
variable {K : PySem.W.Frag} {g g' g'' : Gh} {S S' S'' : Sta} {σ : St} {H0 H H' H'' : Hp} {X : Cx}
theorem bls_rep : ∀ {ds : List D} {vs : List V} {ns : List Bool}, RepAll K g H ds vs → blsOf ds = some ns → vs = ns.map V.bl
  | [], _, _, h, e => by unfold RepAll at h; subst h; simp [blsOf] at e; subst e; rfl
  | d :: ds, _, ns, h, e => by
    unfold RepAll at h
    obtain ⟨v, r, rfl, h1, h2⟩ := h
    cases d <;> simp [blsOf] at e
    obtain ⟨l, hl, rfl⟩ := e
    have h1 : v = .bl _ := h1
    simp [h1, bls_rep h2 hl]
theorem strs_rep : ∀ {ds : List D} {vs : List V} {ns : List Str}, RepAll K g H ds vs → strsOf ds = some ns → vs = ns.map V.str
  | [], _, _, h, e => by unfold RepAll at h; subst h; simp [strsOf] at e; subst e; rfl
  | d :: ds, _, ns, h, e => by
    unfold RepAll at h
    obtain ⟨v, r, rfl, h1, h2⟩ := h
    cases d <;> simp [strsOf] at e
    obtain ⟨l, hl, rfl⟩ := e
    have h1 : v = .str _ := h1
    simp [h1, strs_rep h2 hl]
theorem maxI_eq : ∀ (l : List Int) (m : Int), m ∈ l → (∀ y ∈ l, y ≤ m) → maxI l = m
  | [], m, h, _ => by simp at h
  | [a], m, h, _ => by simp at h; simp [maxI, h]
  | a :: b :: r, m, h, k => by
    have hb : ∀ y ∈ b :: r, y ≤ m := fun y hy => k y (List.mem_cons_of_mem _ hy)
    have ha : a ≤ m := k a List.mem_cons_self
    have up : ∀ l : List Int, l ≠ [] → (∀ y ∈ l, y ≤ m) → maxI l ≤ m := by
      intro l
      induction l with
      | nil => intro h; exact absurd rfl h
      | cons x t ih =>
        intro _ hl
        cases t with
        | nil => exact hl x List.mem_cons_self
        | cons y t =>
          have := ih (by simp) fun z hz => hl z (List.mem_cons_of_mem _ hz)
          have hx := hl x List.mem_cons_self
          simp only [maxI]; omega
    rcases List.mem_cons.mp h with rfl | h
    · have := up (b :: r) (by simp) hb
      simp only [maxI]; omega
    · have := maxI_eq (b :: r) m h hb
      simp only [maxI]; omega
theorem minI_eq : ∀ (l : List Int) (m : Int), m ∈ l → (∀ y ∈ l, m ≤ y) → minI l = m
  | [], m, h, _ => by simp at h
  | [a], m, h, _ => by simp at h; simp [minI, h]
  | a :: b :: r, m, h, k => by
    have hb : ∀ y ∈ b :: r, m ≤ y := fun y hy => k y (List.mem_cons_of_mem _ hy)
    have ha : m ≤ a := k a List.mem_cons_self
    have up : ∀ l : List Int, l ≠ [] → (∀ y ∈ l, m ≤ y) → m ≤ minI l := by
      intro l
      induction l with
      | nil => intro h; exact absurd rfl h
      | cons x t ih =>
        intro _ hl
        cases t with
        | nil => exact hl x List.mem_cons_self
        | cons y t =>
          have := ih (by simp) fun z hz => hl z (List.mem_cons_of_mem _ hz)
          have hx := hl x List.mem_cons_self
          simp only [minI]; omega
    rcases List.mem_cons.mp h with rfl | h
    · have := up (b :: r) (by simp) hb
      simp only [minI]; omega
    · have := minI_eq (b :: r) m h hb
      simp only [minI]; omega
def RepCs (K : PySem.W.Frag) (g : Gh) (H : Hp) : List Ct → List V → Prop
  | [], vs => vs = []
  | c :: cs, vs => ∃ v r, vs = v :: r ∧ RepC K g H c v ∧ RepCs K g H cs r
theorem derefs_rep (r : Rel K g S σ H) : ∀ {rs : List R} {vs : List V} {cs : List Ct}, RepRs K g S σ H0 H rs vs → derefs S rs = some cs → RepCs K g H cs vs
  | [], _, _, h, e => by unfold RepRs at h; subst h; simp [derefs] at e; subst e; rfl
  | x :: rs, _, cs, h, e => by
    unfold RepRs at h
    obtain ⟨v, t, rfl, h1, _, h2⟩ := h
    unfold derefs at e
    split at e
    · rename_i c cs' hc hcs
      cases e
      exact ⟨v, t, rfl, h1.ct r hc, derefs_rep r h2 hcs⟩
    · cases e
theorem RepCs.one {c : Ct} {vs : List V} (h : RepCs K g H [c] vs) : ∃ v, vs = [v] ∧ RepC K g H c v := by
  obtain ⟨v, r, rfl, h1, h2⟩ := h
  have : r = [] := h2
  subst this
  exact ⟨v, rfl, h1⟩
theorem RepCs.two {c d : Ct} {vs : List V} (h : RepCs K g H [c, d] vs) : ∃ v w, vs = [v, w] ∧ RepC K g H c v ∧ RepC K g H d w := by
  obtain ⟨v, r, rfl, h1, h2⟩ := h
  obtain ⟨w, rfl, h3⟩ := RepCs.one h2
  exact ⟨v, w, rfl, h1, h3⟩
/-- the built-ins that are called with what stands in the brackets -/
def bltV : Blt → Option (Str × Value)
  | .len => some ("len", .builtin "len")
  | .tuple => some ("tuple", .type "tuple")
  | .list => some ("list", .type "list")
  | .int => some ("int", .type "int")
  | .str => some ("str", .type "str")
  | .max2 => some ("max", .builtin "max")
  | .min2 => some ("min", .builtin "min")
  | .max1 => some ("max", .builtin "max")
  | .min1 => some ("min", .builtin "min")
  | .all => some ("all", .builtin "all")
  | .any => some ("any", .builtin "any")
  | .sum => some ("sum", .builtin "sum")
  | _ => none
def rBlt (K : PySem.W.Frag) (f : Blt) : List V → Hp → VK → Prop := fun vs H Q => ∃ g cs r, RepCs K g H cs vs ∧ bltCt f cs = some r ∧ ∀ v H', Res K g H r v H' → Q v H'
theorem RepC.seq {c : Ct} {ds : List D} {v : V} (h : RepC K g H c v) (e : seqCt c = some ds) :
    ∃ p ws, v = .ref p ∧ RepAll K g H ds ws ∧ (Rd H p (.lst ws) ∨ (ExT H p ws ∧ c = .d (.tup ds))) := by
  cases c with
  | d d =>
    cases d <;> simp [seqCt] at e
    subst e
    have h' : Rep K g H (.tup _) v := h
    unfold Rep at h'
    obtain ⟨p, ws, rfl, h1, h2⟩ := h'
    exact ⟨p, ws, rfl, h2, .inr ⟨h1, rfl⟩⟩
  | o o =>
    cases o <;> simp [seqCt] at e
    subst e
    obtain ⟨p, ws, rfl, h1, h2⟩ := h
    exact ⟨p, ws, rfl, h2, .inl h1⟩
theorem RepC.lst {c : Ct} {ds : List D} {v : V} (h : RepC K g H c v) (e : lstCt c = some ds) : ∃ p ws, v = .ref p ∧ RepAll K g H ds ws ∧ Rd H p (.lst ws) := by
  cases c with
  | d d => simp [lstCt] at e
  | o o =>
    cases o <;> simp [lstCt] at e
    subst e
    obtain ⟨p, ws, rfl, h1, h2⟩ := h
    exact ⟨p, ws, rfl, h2, h1⟩
theorem RepC.int {c : Ct} {i : Int} {v : V} (h : RepC K g H c v) (e : intCt c = some i) : v = .int i := by
  cases c with
  | d d => cases d <;> simp [intCt] at e; subst e; exact h
  | o o => simp [intCt] at e
theorem RepKV.length {κ : Type} : ∀ {kvs : List (κ × D)} {ks : List (κ × V)}, RepKV K g H kvs ks → ks.length = kvs.length
  | [], _, h => by unfold RepKV at h; subst h; rfl
  | a :: b, _, h => by unfold RepKV at h; obtain ⟨v, r, rfl, _, h3⟩ := h; simp [RepKV.length h3]
theorem call_blt1 (hc : X.calm = true) {f : Blt} {x : Str} {u : Value} (e : bltV f = some (x, u)) {pins : List (Addr × Obj)} {s : Shared} {v : V} {us : List Value} {Q : VK} {c : Ct} {r : R} (I : L2.Inv X pins σ H s) (rv : Vals [v] us)
    (hv : RepC X.K g H c v) (hr : blt1 f c = some r) (q : ∀ v H', Res X.K g H r v H' → Q v H') : wpAny (model X.prog X.w) X.A (call u us) (EP X pins σ Q) X.xe s := by
  cases f <;> simp only [bltV, Option.some.injEq, Prod.mk.injEq, reduceCtorEq] at e <;> obtain ⟨rfl, rfl⟩ := e <;> simp only [blt1, reduceCtorEq] at hr
  · -- len
    obtain ⟨n, hn, rfl⟩ := Option.map_eq_some_iff.mp hr
    have fin : Q (.int n) H := q _ _ (.int _)
    cases c with
    | d d =>
      cases d <;> simp only [lenCt, reduceCtorEq] at hn
      · split at hn
        · rename_i hz
          cases hn
          exact call_len_str pins s σ H _ us Q I rv ⟨_, by have hv : v = .str _ := hv; rw [hv], hz, fin⟩
        · cases hn
      · rename_i ds
        cases hn
        have hv' : Rep X.K g H (.tup ds) v := hv
        unfold Rep at hv'
        obtain ⟨p, ws, rfl, h1, h2⟩ := hv'
        exact call_len_seq pins s σ H _ us Q I rv ⟨p, ws, rfl, .inr h1.sq, by rw [h2.length]; exact fin⟩
      · rename_i ds
        cases hn
        have hv' : Rep X.K g H (.klst ds) v := hv
        unfold Rep at hv'
        obtain ⟨p, ws, rfl, h1, h2⟩ := hv'
        exact call_len_seq pins s σ H _ us Q I rv ⟨p, ws, rfl, .inl h1.sq, by rw [h2.length]; exact fin⟩
    | o o =>
      cases o <;> simp only [lenCt, reduceCtorEq] at hn
      · cases hn
        obtain ⟨p, ws, rfl, h1, h2⟩ := hv
        exact call_len_seq pins s σ H _ us Q I rv ⟨p, ws, rfl, .inl (.inl h1), by rw [h2.length]; exact fin⟩
      · cases hn
        obtain ⟨p, rfl, ks, h1, h2⟩ := hv
        exact call_lenD pins s σ H _ us Q I rv ⟨p, ks, rfl, h1, by rw [h2.length]; exact fin⟩
  · -- tuple
    obtain ⟨ds, hn, rfl⟩ := Option.map_eq_some_iff.mp hr
    obtain ⟨p, ws, rfl, h2, h1 | ⟨h1, rfl⟩⟩ := hv.seq hn
    · exact call_tuple_F pins s σ H _ us Q I rv ⟨p, ws, rfl, .inl ⟨.inl h1, fun l o hl ho => q _ _ (.tup hl ho h2)⟩⟩
    · exact call_tuple_F pins s σ H _ us Q I rv ⟨p, ws, rfl, .inr ⟨h1.sq, q _ _ (.same hv)⟩⟩
  · -- list
    obtain ⟨ds, hn, rfl⟩ := Option.map_eq_some_iff.mp hr
    obtain ⟨p, ws, rfl, h2, h1 | ⟨h1, _⟩⟩ := hv.seq hn
    · exact call_list_of pins s σ H _ us Q I rv ⟨p, ws, rfl, .inl (.inl h1), fun l hl => q _ _ (.lst hl h2)⟩
    · exact call_list_of pins s σ H _ us Q I rv ⟨p, ws, rfl, .inr h1.sq, fun l hl => q _ _ (.lst hl h2)⟩
  · -- int
    obtain ⟨i, hn, rfl⟩ := Option.map_eq_some_iff.mp hr
    cases c with
    | d d =>
      cases d <;> simp only [toInt, reduceCtorEq] at hn <;> cases hn
      · exact call_int1 pins s σ H _ us Q I rv (.inr ⟨_, by have hv : v = .bl _ := hv; rw [hv], q _ _ (.int _)⟩)
      · exact call_int1 pins s σ H _ us Q I rv (.inl ⟨_, by have hv : v = .int _ := hv; rw [hv], q _ _ (.int _)⟩)
    | o o => simp [toInt] at hn
  · -- str
    obtain ⟨i, hn, hr⟩ := Option.bind_eq_some_iff.mp hr
    split at hr
    · rename_i c
      cases hr
      exact call_str_int pins s σ H _ us Q I rv ⟨i, by rw [hv.int hn], c, q _ _ (.str _)⟩
    · cases hr
  · -- max
    obtain ⟨ds, hn, hr⟩ := Option.bind_eq_some_iff.mp hr
    obtain ⟨l, hl, hr⟩ := Option.bind_eq_some_iff.mp hr
    split at hr
    · cases hr
    · rename_i hne
      cases hr
      obtain ⟨p, ws, rfl, h2, h1⟩ := hv.lst hn
      have hw := ints_rep h2 hl
      subst hw
      refine cr_max hc pins s σ H _ us Q I rv ⟨p, l, rfl, .inl h1, ?_, fun m hm hall => ?_⟩
      · cases l with
        | nil => simp at hne
        | cons a b => simp
      · rw [← maxI_eq l m hm hall]; exact q _ _ (.int _)
  · obtain ⟨ds, hn, hr⟩ := Option.bind_eq_some_iff.mp hr
    obtain ⟨l, hl, hr⟩ := Option.bind_eq_some_iff.mp hr
    split at hr
    · cases hr
    · rename_i hne
      cases hr
      obtain ⟨p, ws, rfl, h2, h1⟩ := hv.lst hn
      have hw := ints_rep h2 hl
      subst hw
      refine cr_min hc pins s σ H _ us Q I rv ⟨p, l, rfl, .inl h1, ?_, fun m hm hall => ?_⟩
      · cases l with
        | nil => simp at hne
        | cons a b => simp
      · rw [← minI_eq l m hm hall]; exact q _ _ (.int _)
  · obtain ⟨ds, hn, hr⟩ := Option.bind_eq_some_iff.mp hr
    obtain ⟨l, hl, rfl⟩ := Option.map_eq_some_iff.mp hr
    obtain ⟨p, ws, rfl, h2, h1⟩ := hv.lst hn
    have hw := bls_rep h2 hl
    subst hw
    exact cr_all hc pins s σ H _ us Q I rv ⟨p, l, rfl, .inl h1, q _ _ (.bl _)⟩
  · obtain ⟨ds, hn, hr⟩ := Option.bind_eq_some_iff.mp hr
    obtain ⟨l, hl, rfl⟩ := Option.map_eq_some_iff.mp hr
    obtain ⟨p, ws, rfl, h2, h1⟩ := hv.lst hn
    have hw := bls_rep h2 hl
    subst hw
    exact cr_any hc pins s σ H _ us Q I rv ⟨p, l, rfl, .inl h1, q _ _ (.bl _)⟩
  · obtain ⟨ds, hn, hr⟩ := Option.bind_eq_some_iff.mp hr
    obtain ⟨l, hl, rfl⟩ := Option.map_eq_some_iff.mp hr
    obtain ⟨p, ws, rfl, h2, h1⟩ := hv.lst hn
    have hw := ints_rep h2 hl
    subst hw
    exact cr_sum hc pins s σ H _ us Q I rv ⟨p, l, rfl, .inl h1, q _ _ (.int _)⟩
theorem call_blt (hc : X.calm = true) {f : Blt} {x : Str} {u : Value} (e : bltV f = some (x, u)) : CallR X u (rBlt X.K f) := by
  intro pins s σ H vs us Q I rv h
  obtain ⟨g, cs, r, hcs, hr, q⟩ := h
  unfold bltCt at hr
  split at hr
  · obtain ⟨v, rfl, hv⟩ := hcs.one
    exact call_blt1 hc e I rv hv hr q
  · obtain ⟨v, w, rfl, hv, hw⟩ := hcs.two
    cases f <;> simp only [blt2, reduceCtorEq] at hr
    · obtain ⟨i, hi, hr⟩ := Option.bind_eq_some_iff.mp hr
      obtain ⟨j, hj, rfl⟩ := Option.map_eq_some_iff.mp hr
      simp only [bltV, Option.some.injEq, Prod.mk.injEq] at e
      obtain ⟨rfl, rfl⟩ := e
      exact call_max2 hc pins s σ H _ us Q I rv ⟨i, j, by rw [hv.int hi, hw.int hj], by have := q _ _ (.int _); simpa only [dc_iff] using this⟩
    · obtain ⟨i, hi, hr⟩ := Option.bind_eq_some_iff.mp hr
      obtain ⟨j, hj, rfl⟩ := Option.map_eq_some_iff.mp hr
      simp only [bltV, Option.some.injEq, Prod.mk.injEq] at e
      obtain ⟨rfl, rfl⟩ := e
      exact call_min2 hc pins s σ H _ us Q I rv ⟨i, j, by rw [hv.int hi, hw.int hj], by have := q _ _ (.int _); simpa only [dc_iff] using this⟩
  · cases hr
end
end NH

set_option Elab.async false
set_option linter.all false
set_option maxRecDepth 100000
set_option maxHeartbeats 1000000
set_option autoImplicit false
namespace NH
open PySem L2
section
variable {K : PySem.W.Frag} {g g' g'' : Gh} {S S' S'' : Sta} {σ : St} {H0 H H' H'' : Hp} {X : Cx}
theorem Stay.mut {a : Addr} {u0 u : HO} (h : H a = some u0) (m : MutO u0) : Stay g g H (upd H a u) :=
  ⟨fun _ _ h => h, fun b vs q => by rw [upd_ne (fun z => by rw [z, h] at q; cases q; exact m.elim)]; exact q, fun b o w q => by rw [upd_ne (fun z => by rw [z, h] at q; cases q; exact m.elim)]; exact q⟩
theorem Rel.refOf (r : Rel K g S σ H) {n : Nat} (hn : n < S.st.length) : ∃ a, g[n]? = some a ∧ RepO K g H S.st[n] a := r.st n _ (List.getElem?_eq_getElem hn)
theorem nodup_at {α : Type} {l : List α} (h : l.Nodup) {i j : Nat} {a : α} (e : l[i]? = some a) (f : l[j]? = some a) : i = j := by
  obtain ⟨h1, e1⟩ := List.getElem?_eq_some_iff.mp e
  obtain ⟨h2, e2⟩ := List.getElem?_eq_some_iff.mp f
  exact (List.getElem_inj h).mp (e1.trans e2.symm)
/-- the store's n-th object is changed -/
theorem Rel.setSt {n : Nat} {a : Addr} {o o' : O} {u : HO} (r : Rel K g S σ H) (ha : g[n]? = some a) (ho : RepO K g H o a) (ho' : RepO K g (upd H a u) o' a) : Po K g S σ H g { S with st := S.st.set n o' } (upd H a u) := by
  obtain ⟨u0, e0, m0⟩ := ho.mut
  have st : Stay g g H (upd H a u) := Stay.mut e0 m0
  have hm : a ∈ g := List.mem_of_getElem? ha
  have hn : n < S.st.length := by rw [r.gl]; exact (List.getElem?_eq_some_iff.mp ha).1
  refine ⟨⟨r.len, fun i d h => ?_, fun i o1 h => ?_, r.inj, fun k o1 h => ?_, by simpa using r.gl, r.gn⟩, fun i o h => ⟨o, h⟩, ⟨⟨[], by simp, by simp⟩, fun b o1 hb hg ho => ?_, fun b hb => ?_⟩⟩
  · obtain ⟨v, h1, h2⟩ := r.val i d h
    exact ⟨v, h1, h2.stay st⟩
  · obtain ⟨b, h1, h2, h3⟩ := r.own i o1 h
    exact ⟨b, h1, h2.stay st (upd_ne fun z => h3 (z ▸ hm)), h3⟩
  · by_cases e : n = k
    · subst e
      rw [List.getElem?_set_self hn] at h
      cases h
      exact ⟨a, ha, ho'⟩
    · rw [List.getElem?_set_ne e] at h
      obtain ⟨b, h1, h2⟩ := r.st k o1 h
      refine ⟨b, h1, h2.stay st (upd_ne fun z => e ?_)⟩
      subst z
      exact nodup_at r.gn ha h1
  · have hne : b ≠ a := fun z => hg (by rw [z]; exact hm)
    rw [upd_ne hne]; exact hb
  · by_cases e : b = a
    · subst e; rw [upd_same] at hb; cases hb
    · rw [upd_ne e] at hb; exact hb
/-- the object of a slot is changed -/
theorem Rel.setOwn {i : Nat} {a : Addr} {o o' : O} {u : HO} (r : Rel K g S σ H) (hi : S.σ[i]? = some (.own o)) (hs : σ[i]? = some (some (.ref a))) (ho : RepO K g H o a) (hg : a ∉ g) (ho' : RepO K g (upd H a u) o' a) :
    Po K g S σ H g { S with σ := S.σ.set i (.own o') } (upd H a u) := by
  obtain ⟨u0, e0, m0⟩ := ho.mut
  have st : Stay g g H (upd H a u) := Stay.mut e0 m0
  have il : i < S.σ.length := (List.getElem?_eq_some_iff.mp hi).1
  have less : Less S { S with σ := S.σ.set i (.own o') } := fun j o1 hj => by
    by_cases e : i = j
    · subst e; exact ⟨o, hi⟩
    · rw [List.getElem?_set_ne e] at hj; exact ⟨o1, hj⟩
  have ne : ∀ j b, i ≠ j → (∃ o1, S.σ[j]? = some (.own o1)) → σ[j]? = some (some (.ref b)) → b ≠ a := fun j b hij h1 h2 z => by
    subst z
    exact hij (r.inj i j b ⟨⟨o, hi⟩, hs⟩ ⟨h1, h2⟩)
  refine ⟨⟨by simpa using r.len, fun j d h => ?_, fun j o1 h => ?_, fun j l b h1 h2 => r.inj j l b (less.at h1) (less.at h2), fun k o1 h => ?_, r.gl, r.gn⟩, less, ⟨⟨[], by simp, by simp⟩, fun b o1 hb hgb hob => ?_, fun b hb => ?_⟩⟩
  · by_cases e : i = j
    · subst e; rw [List.getElem?_set_self il] at h; cases h
    · rw [List.getElem?_set_ne e] at h
      obtain ⟨v, h1, h2⟩ := r.val j d h
      exact ⟨v, h1, h2.stay st⟩
  · by_cases e : i = j
    · subst e; rw [List.getElem?_set_self il] at h; cases h
      exact ⟨a, hs, ho', hg⟩
    · rw [List.getElem?_set_ne e] at h
      obtain ⟨b, h1, h2, h3⟩ := r.own j o1 h
      exact ⟨b, h1, h2.stay st (upd_ne (ne j b e ⟨o1, h⟩ h1)), h3⟩
  · obtain ⟨b, h1, h2⟩ := r.st k o1 h
    exact ⟨b, h1, h2.stay st (upd_ne fun z => hg (z ▸ List.mem_of_getElem? h1))⟩
  · have hne : b ≠ a := fun z => hob i ⟨⟨o, hi⟩, by rw [z]; exact hs⟩
    rw [upd_ne hne]; exact hb
  · by_cases e : b = a
    · subst e; rw [upd_same] at hb; cases hb
    · rw [upd_ne e] at hb; exact hb
theorem setPl_ok {r : R} {o o' : O} {v : V} (rl : Rel K g S σ H) (h : RepR K g S σ H0 H r v) (hd : deref S r = some (.o o)) (hs : setPl r o' S = .ok () S') :
    ∃ a, v = .ref a ∧ RepO K g H o a ∧ ∀ u, RepO K g (upd H a u) o' a → Po K g S σ H g S' (upd H a u) := by
  cases r with
  | new o1 => simp [setPl] at hs
  | val d =>
    cases d <;> simp only [setPl, reduceCtorEq] at hs
    rename_i n
    split at hs
    · rename_i hn
      cases hs
      have h' : Rep K g H (.ref n) v := h
      unfold Rep at h'
      obtain ⟨a, rfl, ha⟩ := h'
      obtain ⟨b, hb, hr⟩ := rl.refOf hn
      rw [ha] at hb; cases hb
      simp only [deref, ctOf, List.getElem?_eq_getElem hn, Option.map_some, Option.some.injEq, Ct.o.injEq] at hd
      subst hd
      exact ⟨a, rfl, hr, fun u hu => rl.setSt ha hr hu⟩
    · cases hs
  | slot i =>
    have h : σ[i]? = some (some v) := h
    simp only [setPl] at hs
    split at hs
    · rename_i o1 hi
      cases hs
      simp only [deref, hi, Option.some.injEq, Ct.o.injEq] at hd
      subst hd
      obtain ⟨a, h1, h2, h3⟩ := rl.own i _ hi
      rw [h] at h1; cases h1
      exact ⟨a, rfl, h2, fun u hu => rl.setOwn hi h h2 h3 hu⟩
    · rename_i n hi
      split at hs
      · rename_i hn
        cases hs
        obtain ⟨w, h1, h2⟩ := rl.val i _ hi
        rw [h] at h1; cases h1
        unfold Rep at h2
        obtain ⟨a, rfl, ha⟩ := h2
        obtain ⟨b, hb, hr⟩ := rl.refOf hn
        rw [ha] at hb; cases hb
        simp only [deref, hi, ctOf, List.getElem?_eq_getElem hn, Option.map_some, Option.some.injEq, Ct.o.injEq] at hd
        subst hd
        exact ⟨a, rfl, hr, fun u hu => rl.setSt ha hr hu⟩
      · cases hs
    · cases hs
theorem RepO.lstUpd {ds es : List D} {vs ws : List V} {a : Addr} (h : H a = some (.lst vs)) (hw : RepAll K g H es ws) : RepO K g (upd H a (.lst ws)) (.lst es) a := ⟨ws, upd_same, hw.stay (Stay.mut h trivial)⟩

/-! ### methods by values -/
theorem mt_extendR : MtR X "list.extend" (fun x vs H Q => ∃ l b xs zs, x = .ref l ∧ vs = [.ref b] ∧ H l = some (.lst xs) ∧ Rd H b (.lst zs) ∧ xs.length + zs.length ≤ sizeLine ∧ Q .non (upd H l (.lst (xs ++ zs)))) := by
  intro pins s σ H x vs v us Q I rx rv h
  obtain ⟨l, b, xs, zs, rfl, rfl, hH, hB, hz, q⟩ := h
  cases rx
  obtain ⟨u, rfl, ru⟩ := rv.one
  cases ru
  obtain ⟨z, its, n, r, hl, e⟩ := I.lstM hH
  obtain ⟨z2, its2, n2, r2, hl2, e2⟩ := rd_lst I hB
  have hsz : its.toArray.size + its2.toArray.size ≤ sizeLine := by rw [List.size_toArray, List.size_toArray]; omega
  have hlong : ¬ (!its.toArray.isEmpty && Builtin.List.listTooLong (its.toArray.size + its2.toArray.size)) = true := by
    rw [notLongL hsz, Bool.and_false]
    exact Bool.false_ne_true
  refine call_meets F.slot_list_extend ⟨_, e, rfl⟩ F.entry_list_extend (F.args_list_extend_2 _ _)
    (AutoSeq1.list_extend_list_list_0 l its.toArray n b its2.toArray n2 hlong (by rw [List.size_toArray]; omega) (by omega)) ⟨e, e2, ?_⟩
  refine ⟨.non, _, I.lset (its' := its ++ its2) hH e (by simp) (r.append r2) ?_, rfl, q⟩
  rw [List.length_append]
  omega
theorem mt_tupIndex : MtR X "tuple.index" (fun x xs H Q => ∃ (p : Addr) (ys : List V) (y : V) (j : Nat) (z : V), x = .ref p ∧ xs = [y] ∧ SqT X.K H p ys ∧ flatV y = true ∧ ys.all flatV = true ∧ ys[j]? = some z ∧ eqV z y = true ∧
    (∀ (m : Nat) (z' : V), m < j → ys[m]? = some z' → eqV z' y = false) ∧ Q (.int (j : Nat)) H) := by
  intro pins s σ H x xs v us Q I rx rs h
  obtain ⟨p, ys, y, j, z, rfl, rfl, hq, fy, fys, hz, hzj, hno, q⟩ := h
  cases rx
  obtain ⟨uy, rfl, ry⟩ := vals1 rs
  obtain ⟨its, rv, pl, hlen⟩ := I.tuple hq
  obtain ⟨⟨cls, dd, dt, sl⟩, ho, hc, n, hd⟩ := pl
  simp only at hc hd
  subst hc
  subst hd
  obtain ⟨u, hu, ru⟩ := rv.get hz
  obtain ⟨hjl, hje⟩ := List.getElem?_eq_some_iff.mp hu
  have hvl := rv.length
  have hj : j < its.toArray.size := by simpa using hjl
  refine call_meets PySem.F.slot_tuple_index ⟨_, ho, rfl⟩ PySem.F.entry_tuple_index (PySem.F.args_tuple_index_2 _ _) (TI.tuple_indexAt p its.toArray n dd sl uy (eqU y) j hj ?_ ?_)
    ⟨ho, fun w hw => mem_eqAt ry fy rv fys w (by simpa using hw), ⟨.int (j : Nat), H, I.tok _, ⟨_, rfl⟩, q⟩⟩
  · have e1 : its.toArray[j] = u := by simpa using hje
    rw [e1, eqU_of ru (flat_at fys hz)]
    exact hzj
  · intro m hm hmj
    have hml : m < its.length := by simpa using hm
    have hmy : m < ys.length := by omega
    have hy' : ys[m]? = some ys[m] := List.getElem?_eq_getElem hmy
    obtain ⟨u2, hu2, ru2⟩ := rv.get hy'
    obtain ⟨_, hme⟩ := List.getElem?_eq_some_iff.mp hu2
    have e1 : its.toArray[m] = u2 := by simpa using hme
    rw [e1, eqU_of ru2 (flat_at fys hy')]
    exact hno m _ hmj hy'
theorem findIdx_get {α : Type} {p : α → Bool} : ∀ {l : List α} {j : Nat}, l.findIdx? p = some j → ∃ x, l[j]? = some x ∧ p x = true ∧ ∀ m y, m < j → l[m]? = some y → p y = false := by
  intro l
  induction l with
  | nil => intro j h; simp at h
  | cons a l ih =>
    intro j h
    rw [List.findIdx?_cons] at h
    by_cases ha : p a = true
    · rw [if_pos ha] at h; cases h
      exact ⟨a, rfl, ha, fun m y hm => by omega⟩
    · rw [if_neg ha] at h
      obtain ⟨i, hi, rfl⟩ := Option.map_eq_some_iff.mp h
      obtain ⟨x, h1, h2, h3⟩ := ih hi
      refine ⟨x, by simpa using h1, h2, fun m y hm hy => ?_⟩
      cases m with
      | zero => simp at hy; subst hy; simpa using ha
      | succ m => exact h3 m y (by omega) (by simpa using hy)
/-! ### o[i] = v -/
theorem RepKV.put {κ : Type} [DecidableEq κ] (k : κ) {d : D} {v : V} (hv : Rep K g H d v) : ∀ {kvs : List (κ × D)} {ks : List (κ × V)}, RepKV K g H kvs ks → RepKV K g H (putD kvs k d) (putK ks k v) := by
  have hany : ∀ {kvs : List (κ × D)} {ks : List (κ × V)}, RepKV K g H kvs ks → (kvs.any fun kv => decide (kv.1 = k)) = (ks.any fun kv => decide (kv.1 = k)) := by
    intro kvs
    induction kvs with
    | nil => intro ks h; unfold RepKV at h; subst h; rfl
    | cons a b ih => intro ks h; unfold RepKV at h; obtain ⟨w, r, rfl, _, h3⟩ := h; simp [ih h3]
  have hmap : ∀ {kvs : List (κ × D)} {ks : List (κ × V)}, RepKV K g H kvs ks → RepKV K g H (kvs.map fun kv => if kv.1 = k then (kv.1, d) else kv) (ks.map fun kv => if kv.1 = k then (kv.1, v) else kv) := by
    intro kvs
    induction kvs with
    | nil => intro ks h; unfold RepKV at h; subst h; simp [RepKV]
    | cons a b ih =>
      intro ks h
      unfold RepKV at h
      obtain ⟨w, r, rfl, h1, h3⟩ := h
      simp only [List.map_cons]
      unfold RepKV
      by_cases e : a.1 = k
      · simp only [e, if_true]
        exact ⟨v, _, rfl, hv, ih h3⟩
      · simp only [e, if_false]
        exact ⟨w, _, rfl, h1, ih h3⟩
  have happ : ∀ {kvs : List (κ × D)} {ks : List (κ × V)}, RepKV K g H kvs ks → RepKV K g H (kvs ++ [(k, d)]) (ks ++ [(k, v)]) := by
    intro kvs
    induction kvs with
    | nil => intro ks h; unfold RepKV at h; subst h; exact ⟨v, [], rfl, hv, rfl⟩
    | cons a b ih =>
      intro ks h
      unfold RepKV at h
      obtain ⟨w, r, rfl, h1, h3⟩ := h
      exact ⟨w, _, rfl, h1, ih h3⟩
  intro kvs ks h
  unfold putD putK
  rw [hany h]
  split
  · exact hmap h
  · exact happ h
theorem RepKT.put (k : List Int) {b : Addr} {d : D} {v : V} {u : Value} (hb : ExT H b (k.map V.int)) (ru : RelV v u) (hv : Rep K g H d v) {kvs : List (List Int × D)} {xs : List (List Int × Addr × Value)} (h : RepKT K g H kvs xs) :
    RepKT K g H (putD kvs k d) (storedH xs k b u) := by
  have hany : ∀ {kvs : List (List Int × D)} {xs : List (List Int × Addr × Value)}, RepKT K g H kvs xs → (kvs.any fun kv => decide (kv.1 = k)) = (atKey xs k).isSome := by
    intro kvs
    induction kvs with
    | nil => intro ks h; unfold RepKT at h; subst h; rfl
    | cons p q ih =>
      intro ks h
      unfold RepKT at h
      obtain ⟨b, u, v, r, rfl, _, _, _, h3⟩ := h
      by_cases e : p.1 = k
      · simp [e, atKey, List.find?_cons]
      · have e2 : atKey ((p.1, b, u) :: r) k = atKey r k := by simp [atKey, List.find?_cons, e]
        simp [e, e2, ih h3]
  have hmap : ∀ {kvs : List (List Int × D)} {xs : List (List Int × Addr × Value)}, RepKT K g H kvs xs → RepKT K g H (kvs.map fun kv => if kv.1 = k then (kv.1, d) else kv) (xs.map (putAt k u)) := by
    intro kvs
    induction kvs with
    | nil => intro ks h; unfold RepKT at h; subst h; simp [RepKT]
    | cons p q ih =>
      intro ks h
      unfold RepKT at h
      obtain ⟨b', u', v', r, rfl, h1, h2, h3, h4⟩ := h
      simp only [List.map_cons]
      unfold RepKT
      by_cases e : p.1 = k
      · simp only [putAt, e, if_true]
        exact ⟨b', u, v, _, rfl, by rw [← e]; exact h1, ru, hv, ih h4⟩
      · simp only [putAt, e, if_false]
        exact ⟨b', u', v', _, rfl, h1, h2, h3, ih h4⟩
  have happ : ∀ {kvs : List (List Int × D)} {xs : List (List Int × Addr × Value)}, RepKT K g H kvs xs → RepKT K g H (kvs ++ [(k, d)]) (xs ++ [(k, b, u)]) := by
    intro kvs
    induction kvs with
    | nil => intro ks h; unfold RepKT at h; subst h; exact ⟨b, u, v, [], rfl, hb, ru, hv, rfl⟩
    | cons p q ih =>
      intro ks h
      unfold RepKT at h
      obtain ⟨b', u', v', r, rfl, h1, h2, h3, h4⟩ := h
      exact ⟨b', u', v', _, rfl, h1, h2, h3, ih h4⟩
  unfold putD storedH
  rw [hany h]
  split
  · exact hmap h
  · exact happ h
theorem putD_length {κ : Type} [DecidableEq κ] (kvs : List (κ × D)) (k : κ) (d : D) : (putD kvs k d).length ≤ kvs.length + 1 := by
  unfold putD
  split <;> simp
def rSetI (K : PySem.W.Frag) (g : Gh) (o o' : O) (d : D) : V → V → V → Hp → (Hp → Prop) → Prop := fun x y z H Q => ∃ a k, x = .ref a ∧ RepO K g H o a ∧ Rep K g H k y ∧ Rep K g H d z ∧ setO o k d = some o' ∧ ∀ u, RepO K g (upd H a u) o' a → Q (upd H a u)
theorem set_all (hu : X.A.units + 1 < cLine) : PSet X (fun x y z H Q => ∃ g o o' d, rSetI X.K g o o' d x y z H Q) := by
  intro pins s σ H x y z xv yv zv Q I rx ry rz h
  obtain ⟨g, o, o', d, a, k, rfl, ho, hk, hd, e, q⟩ := h
  cases o with
  | lst ds =>
    cases k <;> simp only [setO, reduceCtorEq] at e
    rename_i i
    obtain ⟨j, hj, rfl⟩ := Option.map_eq_some_iff.mp e
    obtain ⟨vs, h1, h2⟩ := ho
    refine set_list pins s σ H _ y z xv yv zv Q I rx ry rz ⟨a, vs, i, j, rfl, hk, h1, by rw [h2.length]; exact hj, ?_⟩
    exact q _ ⟨_, upd_same, (RepAll.set hd j h2).stay (Stay.mut h1 trivial)⟩
  | dk kvs =>
    simp only [setO] at e
    obtain ⟨key, hkey, e⟩ := Option.bind_eq_some_iff.mp e
    split at e
    · rename_i hz
      cases e
      obtain ⟨ks, h1, h2⟩ := ho
      cases rx
      have hy := hk.key hkey
      subst hy
      refine d_setItem hu I (DPut.k (k := key) h1 (by rw [h2.length]; exact hz)) ry rz fun s' I' => ⟨_, I', q _ ⟨_, upd_same, (RepKV.put key hd h2).stay (Stay.mut h1 trivial)⟩⟩
    · cases e
  | dt kvs =>
    simp only [setO] at e
    obtain ⟨key, hkey, e⟩ := Option.bind_eq_some_iff.mp e
    split at e
    · rename_i hz
      cases e
      cases rx
      obtain ⟨b, rfl, hb⟩ := hk.tkey hkey
      cases ry
      obtain ⟨xs, h1, h0, hz', h2, dd⟩ := dt_at I ho
      refine wpAny_setItem_heap (hsz := by rw [h2.length]; exact hz') (tupleKind_room_in1 hu) (isTupKey I hb) dd fun h' dd' hs => ?_
      obtain ⟨oo, es, ep, q1, q2, q3, q4, _, q5⟩ := dd'
      have new : dtP a (storedH xs key b zv) h' := ⟨oo, es, ep, q1, q2, q3, q4, q5⟩
      have ob : ObjOk X.prog X.w (upd H a (.ext (dtP a (storedH xs key b zv)))) h' a (.ext (dtP a (storedH xs key b zv))) := ⟨new, ⟨oo, q1⟩, fun h1 h2 ⟨o, es, ep, w1, w2⟩ k => ⟨o, es, ep, k o w1, w2⟩⟩
      refine ⟨_, d_write (t' := _) I (by rw [h1]; exact True.intro) hs ⟨oo, q1⟩ ob, q _ ⟨_, upd_same, h0, ?_, (RepKT.put key hb rz hd h2).stay (Stay.mut h1 trivial)⟩⟩
      have := putD_length kvs key d
      omega
    · cases e
  | ins c fs => exact ho.elim
end
end NH

set_option Elab.async false
set_option linter.all false
set_option maxRecDepth 100000
set_option maxHeartbeats 1000000
set_option autoImplicit false
namespace NH
open PySem L2

/-- what the checker knows of a block: the names by slots, the scope, which cells are its own -/
structure Kx where
  N : List Str
  sc : Scope
  fn : Str → Bool
def Kx.look (k : Kx) (x : Str) : Option NameKind := k.sc.names.lookup x
def visB (k : Kx) (i : Nat) (x : Str) : Bool :=
  decide (k.N[i]? = some x) && (decide (k.look x = some .local) || decide (k.look x = some .cell) || decide (k.look x = some .free)) && !(x == ("__debug__" : Str)) && !(x == ("__classdict__" : Str))
def glB (k : Kx) (x : Str) : Bool := decide (k.look x = some .globalImplicit) && !(x == ("__debug__" : Str)) && decide (x ≠ "__name__")
/-- a name that may be stored -/
def stoB (k : Kx) (i : Nat) (x : Str) : Bool :=
  decide (k.N[i]? = some x) && (decide (k.look x = some .local) || decide (k.look x = some .cell)) && (k.fn x || decide (k.look x = some .local))
def isPlain : Expr → Bool
  | .UnaryOp .Not _ _ => false
  | .BoolOp _ _ _ => false
  | .IfExp _ _ _ _ => false
  | .Compare _ _ _ _ => false
  | _ => true
def isTupE : Expr → Bool
  | .Tuple _ _ _ => true
  | _ => false
def isListE : Expr → Bool
  | .List _ _ => true
  | _ => false
def isLc : Expr → Bool
  | .ListComp _ _ _ _ => true
  | _ => false
def noCall0 : Expr → Bool
  | .Call _ [] _ _ => false
  | _ => true
def blkK (k : Kx) (scope : Scope) : Kx := ⟨k.N, relS scope k.sc, fun x => scope.names.lookup x == some .cell⟩
def ownOf (k : Kx) (vs : List Nat) : List (Str × Nat) := vs.map fun i => (k.N.getD i Str.empty, i)
/-- a target's names are among vs -/
def tgtIn (vs : List Nat) : C → Bool
  | .tn i => decide (i ∈ vs)
  | .tt ts => tgtIn vs ts
  | .nil => true
  | .cons t ts => tgtIn vs t && tgtIn vs ts
  | _ => false
/-- pairs go to a target of several names -/
def tgOk : C → Expr → Bool
  | .ienum _ => isTupE
  | .izip _ _ => isTupE
  | _ => fun _ => true
def Mth.name : Mth → Str
  | .append => "append"
  | .extend => "extend"
  | .pop0 => "pop"
  | .pop1 => "pop"
  | .index => "index"
  | .count => "count"
  | .join => "join"
  | .split => "split"
  | .replace => "replace"
  | .get => "get"
  | .clear => "clear"
/-- how many arguments -/
def Mth.args : Mth → Nat
  | .pop0 => 0
  | .clear => 0
  | .get => 2
  | .replace => 2
  | _ => 1

def between : List (Option Expr) → List Expr → List Expr
  | some k :: ks, v :: vs => k :: v :: between ks vs
  | _, _ => []
def isNo : C → Bool
  | .no => true
  | _ => false
def mvOf : C → Option Nat
  | .mv i => some i
  | _ => none
def optB (b : Bool) (f : Expr → Bool) : Option Expr → Bool
  | none => b
  | some x => !b && f x
def optL (b : Bool) (f : Expr → Bool) : List Expr → Bool
  | [] => b
  | [x] => !b && f x
  | _ => false
mutual
def chkE (k : Kx) : C → Expr → Bool
  | .non => fun e => match e with
    | .Constant .none _ _ => true
    | _ => false
  | .bl b => fun e => match e with
    | .Constant (.bool c) _ _ => b == c
    | _ => false
  | .int i => fun e => match e with
    | .Constant (.int j) _ _ => decide (i = j)
    | _ => false
  | .str x => fun e => match e with
    | .Constant (.str y) _ _ => decide (x = y)
    | _ => false
  | .var i => fun e => match e with
    | .Name x _ => visB k i x
    | _ => false
  | .tup es => fun e => match e with
    | .Tuple l _ _ => chkA k es l
    | _ => false
  | .lst es => fun e => match e with
    | .List l _ => chkA k es l
    | _ => false
  | .dnew _ => fun e => match e with
    | .Dict [] [] _ => true
    | _ => false
  | .disp _ ks _ => fun e => match e with
    | .Dict keys values _ => keys.all (·.isSome) && decide (keys.length = values.length) && decide (keys.length ≤ 15) && !keys.isEmpty && chkA k ks (between keys values)
    | _ => false
  | .bin op a b => fun e => match e with
    | .BinOp l o r _ => decide (o = bop op) && chkE k a l && chkE k b r
    | _ => false
  | .neg a => fun e => match e with
    | .UnaryOp .USub l _ => chkE k a l
    | _ => false
  | .cmp op a b => fun e => match e with
    | .Compare l [o] [r] _ => decide (o = cop op) && chkE k a l && chkE k b r
    | _ => false
  | .cmp2 op op' a b c => fun e => match e with
    | .Compare l [o, o'] [m, r] _ => decide (o = cop op) && decide (o' = cop op') && chkE k a l && chkE k b m && chkE k c r
    | _ => false
  | .boo an es => fun e => match e with
    | .BoolOp o l _ => decide (o = if an = true then .And else .Or) && chkA k es l
    | _ => false
  | .not a => fun e => match e with
    | .UnaryOp .Not l _ => chkE k a l
    | _ => false
  | .idx a i => fun e => match e with
    | .Subscript l r _ => chkE k a l && chkE k i r
    | _ => false
  | .slc a lo hi => fun e => match e with
    | .Subscript l (.Slice u w none _) _ => chkE k a l && optB (isNo lo) (chkE k lo) u && optB (isNo hi) (chkE k hi) w
    | _ => false
  | .lc vs t it ifs x => fun e => match e with
    | .ListComp elt [⟨tg, iter, l, 0⟩] scope _ => blkC k.N k.sc scope (ownOf k vs) && tgtIn vs t && tgOk it tg && chkI k it iter && chkT (blkK k scope) t tg && optL (isNo ifs) (chkE (blkK k scope) ifs) l && chkE (blkK k scope) x elt
    | _ => false
  | .fz a => fun e => chkE k a e
  | .stt a => fun e => chkE k a e
  | .mw a => fun e => chkE k a e
  | .call f es => fun e => match e with
    | .Call (.Name x _) l [] _ => decide (x = f) && glB k x && !l.isEmpty && chkC k es l
    | _ => false
  | .blt f es => fun e => match e with
    | .Call (.Name x _) l [] _ =>
      match bltV f with
      | some (y, _) => decide (x = y) && glB k x && chkA k es l && !l.isEmpty
      | none =>
        match f with
        | .lrange => match l with
          | [.Call (.Name y _) [a'] [] _] => decide (x = "list") && glB k x && decide (y = "range") && glB k y && chkA k es [a']
          | _ => false
        | .trange => match l with
          | [.Call (.Name y _) [a'] [] _] => decide (x = "tuple") && glB k x && decide (y = "range") && glB k y && chkA k es [a']
          | _ => false
        | .istuple => match l with
          | [a', .Name y _] => decide (x = "isinstance") && glB k x && decide (y = "tuple") && glB k y && chkA k es [a']
          | _ => false
        | .islist => match l with
          | [a', .Name y _] => decide (x = "isinstance") && glB k x && decide (y = "list") && glB k y && chkA k es [a']
          | _ => false
        | .isbool => match l with
          | [a', .Name y _] => decide (x = "isinstance") && glB k x && decide (y = "bool") && glB k y && chkA k es [a']
          | _ => false
        | .islt => match l with
          | [a', .Tuple [.Name y _, .Name z _] _ _] => decide (x = "isinstance") && glB k x && decide (y = "list") && glB k y && decide (z = "tuple") && glB k z && chkA k es [a']
          | _ => false
        | _ => false
    | _ => false
  | .mth m o es => fun e => match e with
    | .Call (.Attribute o' x ap) l [] cp => decide (x = m.name) && (ap.endLine == cp.line) && decide (l.length = m.args) && noCall0 o' && chkE k o o' && chkA k es l
    | _ => false
  | _ => fun _ => false
def chkA (k : Kx) : C → List Expr → Bool
  | .nil => fun l => l.isEmpty
  | .cons e es => fun l => match l with
    | x :: r => chkE k e x && chkA k es r
    | [] => false
  | _ => fun _ => false
def chkC (k : Kx) : C → List Expr → Bool
  | .nil => fun l => l.isEmpty
  | .cons e es => fun l => match l with
    | x :: r => (match mvOf e with
      | some i => (match x with
        | .Name y _ => visB k i y
        | _ => false)
      | none => chkE k e x) && chkC k es r
    | [] => false
  | _ => fun _ => false
def chkI (k : Kx) : C → Expr → Bool
  | .irng es => fun e => match e with
    | .Call (.Name x _) l [] _ => decide (x = "range") && glB k x && (decide (l.length = 1) || decide (l.length = 2)) && chkA k es l
    | _ => false
  | .iseq a => fun e => chkE k a e
  | .ienum a => fun e => match e with
    | .Call (.Name x _) [l] [] _ => decide (x = "enumerate") && glB k x && chkE k a l
    | _ => false
  | .izip a b => fun e => match e with
    | .Call (.Name x _) [l, r] [] _ => decide (x = "zip") && glB k x && chkE k a l && chkE k b r
    | _ => false
  | .istr a => fun e => chkE k a e
  | _ => fun _ => false
def chkT (k : Kx) : C → Expr → Bool
  | .tn i => fun e => match e with
    | .Name x _ => stoB k i x
    | _ => false
  | .tw i => fun e => match e with
    | .Name x _ => stoB k i x
    | _ => false
  | .tt ts => fun e => match e with
    | .Tuple l _ _ => chkTs k ts l
    | _ => false
  | .ti o i => fun e => match e with
    | .Subscript l r _ => chkE k o l && chkE k i r
    | _ => false
  | _ => fun _ => false
def chkTs (k : Kx) : C → List Expr → Bool
  | .nil => fun l => l.isEmpty
  | .cons t ts => fun l => match l with
    | x :: r => chkT k t x && chkTs k ts r
    | [] => false
  | _ => fun _ => false
end
def chkO (k : Kx) (c : C) : Option Expr → Bool := optB (isNo c) (chkE k c)
def chkQ (k : Kx) (c : C) : List Expr → Bool := optL (isNo c) (chkE k c)

/-! ### the context -/
def bltNames : List Str := ["len", "tuple", "list", "int", "str", "max", "min", "all", "any", "sum", "range", "enumerate", "zip", "isinstance", "bool", "sorted", "set", "reversed", "repr", "dict"]
/-- the store at the heap -/
structure StRel (K : PySem.W.Frag) (g : Gh) (so : List O) (H : Hp) : Prop where
  st : ∀ (n : Nat) (o : O), so[n]? = some o → ∃ a, g[n]? = some a ∧ RepO K g H o a
  gl : so.length = g.length
  gn : g.Nodup
/-- the handed over objects, behind the call -/
def RepOuts (K : PySem.W.Frag) (g : Gh) (H : Hp) : List Ar → List V → List O → Prop
  | [], _, outs => outs = []
  | .val _ :: as, vs, outs => ∃ v r, vs = v :: r ∧ RepOuts K g H as r outs
  | .own _ :: as, vs, outs => ∃ v r o os a, vs = v :: r ∧ outs = o :: os ∧ v = .ref a ∧ RepO K g H o a ∧ RepOuts K g H as r os
/-- a call's answer -/
def RepRt (K : PySem.W.Frag) (g : Gh) (H0 H : Hp) : Rt → V → Prop
  | .val d, v => Rep K g H d v
  | .new o, v => ∃ a, v = .ref a ∧ RepO K g H o a ∧ H0 a = none ∧ a ∉ g
/-- what is promised of a call -/
def spOf (K : PySem.W.Frag) (cal : Cal) (f : Str) : Sp := fun vs H Q _ => ∃ g as st, Rel K g ⟨as.map slOf, st⟩ (vs.map some) H ∧ ∃ r outs st', cal f as st = .ok r outs st' ∧
  ∀ v g' H', StRel K g' st' H' → RepOuts K g' H' as vs outs → Fr ⟨as.map slOf, st⟩ (vs.map some) g g' H H' → RepRt K g' H H' r v → Q v H'
structure Cxt (cal : Cal) (k : Kx) (X : Cx) : Prop where
  N : X.N = k.N
  sc : X.env.scope = k.sc
  fn : ∀ x, X.fn x = k.fn x
  calm : X.calm = true
  nd : k.N.Nodup
  po : PassesOwn (model X.prog X.w) X.A X.env X.xe
  hu : X.A.units + 66 < cLine
  blt : ∀ x ∈ bltNames, X.mg x = none
  fns : ∀ f, (∀ as st, cal f as st = .bad) ∨ ∃ lvl a fd ps, X.mg f = some (.ref a) ∧ PySem.W.keepIn X.K (.ref a) = true ∧ Binds X.K fd ps [] ∧ Room lvl X.A ∧ FnOk X.prog X.w X.K X.mg X.base CX0 lvl a fd ps (spOf X.K cal f)
section
variable {cal : Cal} {k : Kx} {X : Cx}
theorem Cxt.vis (c : Cxt cal k X) {i : Nat} {x : Str} (h : visB k i x = true) : X.N[i]? = some x ∧ Vis X.env.scope x ∧ (x == ("__debug__" : Str)) = false ∧ (x == ("__classdict__" : Str)) = false := by
  unfold visB at h
  simp only [Bool.and_eq_true, Bool.or_eq_true, decide_eq_true_eq, Bool.not_eq_true'] at h
  obtain ⟨⟨⟨h1, h2⟩, h3⟩, h4⟩ := h
  refine ⟨by rw [c.N]; exact h1, ?_, h3, h4⟩
  unfold Vis
  rw [c.sc]
  rcases h2 with (h2 | h2) | h2
  · exact .inl h2
  · exact .inr (.inl h2)
  · exact .inr (.inr h2)
theorem Cxt.gl (c : Cxt cal k X) {x : Str} (h : glB k x = true) : Gl X x ∧ (x == ("__debug__" : Str)) = false ∧ x ≠ "__name__" := by
  unfold glB at h
  simp only [Bool.and_eq_true, decide_eq_true_eq, Bool.not_eq_true'] at h
  obtain ⟨⟨h1, h2⟩, h3⟩ := h
  refine ⟨?_, h2, h3⟩
  show X.env.scope.names.lookup x = _
  rw [c.sc]
  exact h1
theorem Cxt.sto (c : Cxt cal k X) {i : Nat} {x : Str} (h : stoB k i x = true) : X.N[i]? = some x ∧ L2.Loc X.env.scope x ∧ (X.fn x = true ∨ X.env.scope.names.lookup x = some .local) := by
  unfold stoB at h
  simp only [Bool.and_eq_true, Bool.or_eq_true, decide_eq_true_eq] at h
  obtain ⟨⟨h1, h2⟩, h3⟩ := h
  refine ⟨by rw [c.N]; exact h1, ?_, ?_⟩
  · unfold L2.Loc
    rw [c.sc]
    exact h2
  · rw [c.sc, c.fn]
    exact h3
theorem Cxt.nd' (c : Cxt cal k X) : X.N.Nodup := by rw [c.N]; exact c.nd
theorem Cxt.blk (c : Cxt cal k X) (scope : Scope) (s : Shared) (H : Hp) (C : Addr) (cl : List (Str × Addr)) (fp : List Addr) : Cxt cal (blkK k scope) (X.blk s H scope (compEnvC scope cl C X.env) fp) where
  N := c.N
  sc := by
    show relabel scope X.env = relS scope k.sc
    rw [← c.sc]
    rfl
  fn := fun x => rfl
  calm := c.calm
  nd := c.nd
  po := PassesOwn.never
  hu := c.hu
  blt := c.blt
  fns := c.fns
theorem plain_test {e : Expr} (h : isPlain e = true) (env : Env) : ∀ whole, isTrue e env whole = (do let v ← whole; standAt e.pos; holding [v] (truthy v)) := by
  intro whole
  cases e <;> first | rfl | (simp [isPlain] at h; done) | skip
  rename_i op x p
  cases op <;> first | rfl | (simp [isPlain] at h; done)
theorem chkE_starred {c : C} {x : Expr} {p : Pos} : chkE k c (.Starred x p) = false := by
  induction c <;> simp_all [chkE]
theorem chkE_set {c : C} {x : List Expr} {n : Nat} {p : Pos} : chkE k c (.Set x n p) = false := by
  induction c <;> simp_all [chkE]
theorem chkE_slice {c : C} {x y z : Option Expr} {p : Pos} : chkE k c (.Slice x y z p) = false := by
  induction c <;> simp_all [chkE]
theorem chkE_nostar {c : C} {e : Expr} (h : chkE k c e = true) (es : List Expr) (env : Env) : starEach (e :: es) env = (false, eval e env) :: starEach es env := by
  cases e <;> first | rfl | skip
  rw [chkE_starred] at h; cases h
theorem chkE_noset {c : C} {e : Expr} (h : chkE k c e = true) (op : CmpOp) : behindInMarks op e = false := by
  cases e <;> first | rfl | skip
  rw [chkE_set] at h; cases h
theorem chkE_nofold {c : C} {e : Expr} (h : chkE k c e = true) (env : Env) : ∀ x, foldedSetIterable e env x = pure x := by
  intro x
  cases e <;> first | rfl | skip
  rw [chkE_set] at h; cases h
theorem chkE_noslice {c : C} {e : Expr} (h : chkE k c e = true) : PlainIx e := by
  intro o i
  cases e <;> first | rfl | skip
  rw [chkE_slice] at h; cases h
theorem chkA_plain {c : C} : ∀ {l : List Expr}, chkA k c l = true → ∀ (pos : Pos) (env : Env), (backTo pos (starEach l env)).any (·.1) = false := by
  induction c with
  | nil => intro l h pos env; simp [chkA] at h; subst h; rfl
  | cons e es _ ih =>
    intro l h pos env
    cases l with
    | nil => simp [chkA] at h
    | cons x r =>
      have h' : chkE k e x = true ∧ chkA k es r = true := by simpa [chkA] using h
      rw [chkE_nostar h'.1]
      have ih := ih h'.2 pos env
      unfold backTo at ih ⊢
      simpa using ih
  | _ => intro l h; simp [chkA] at h
theorem chkA_few {c : C} : ∀ {l : List Expr}, chkA k c l = true → l.length < 30 → ∀ (cpos : Pos) (env : Env), ((backTo cpos (starEach l env)).all (fun x => !x.1) && (backToKw cpos (keywordEach [] env)).all (fun x => x.1.isSome)
      && decide (l.length + ([] : List Keyword).length + (if ([] : List Keyword).isEmpty then 0 else 1) < 30)) = true := by
  intro l h hl cpos env
  have h1 := chkA_plain h cpos env
  have h2 : (backTo cpos (starEach l env)).all (fun x => !x.1) = true := by
    rw [List.all_eq_true]
    intro x hx
    have := List.any_eq_false.mp h1 x hx
    simpa using this
  rw [h2]
  simp [backToKw, keywordEach, hl]
theorem noCall0_base {o : Expr} (h : noCall0 o = true) (name : Str) (env : Env) (whole : Sem Value) : attributeBase o name env whole = whole := by
  cases o <;> first | rfl | skip
  rename_i f args kw p
  cases args with
  | nil => simp [noCall0] at h
  | cons a r => cases f <;> rfl
end
end NH

set_option Elab.async false
set_option linter.all false
set_option maxRecDepth 100000
set_option maxHeartbeats 1000000
set_option autoImplicit false
namespace NH
open PySem L2
section
variable {K : PySem.W.Frag} {X : Cx} {σ : St} {H : Hp} {Q : VK}
/-- behind several steps: a result relative to the first heap -/
theorem RepR.from {g g' : Gh} {S : Sta} {H0 H H' : Hp} {r : R} {v : V} (f : Fr S σ g g' H0 H) {S2 : Sta} {g2 : Gh} (h : RepR K g2 S2 σ H H' r v) : RepR K g2 S2 σ H0 H' r v :=
  h.back fun a ha => f.there a ha
/-- what an operation on waiting results promises -/
def Op1 (K : PySem.W.Frag) (f : R → M R) (r : V → Hp → VK → Prop) : Prop :=
  ∀ (g : Gh) (S : Sta) (σ : St) (H0 H : Hp) (x : R) (v : V) (Q : VK) (r' : R) (S' : Sta), Rel K g S σ H → RepR K g S σ H0 H x v → f x S = .ok r' S' →
    (∀ v' g' H', Po K g S σ H g' S' H' → RepR K g' S' σ H H' r' v' → Q v' H') → r v H Q
def Op2 (K : PySem.W.Frag) (f : R → R → M R) (r : R2) : Prop :=
  ∀ (g : Gh) (S : Sta) (σ : St) (H0 H : Hp) (x y : R) (v w : V) (Q : VK) (r' : R) (S' : Sta), Rel K g S σ H → RepR K g S σ H0 H x v → RepR K g S σ H0 H y w → f x y S = .ok r' S' →
    (∀ v' g' H', Po K g S σ H g' S' H' → RepR K g' S' σ H H' r' v' → Q v' H') → r v w H Q
theorem tE_un {m : M R} {f : R → M R} {r : V → Hp → VK → Prop} (hr : Op1 K f r) (h : tE K (M.bind m f) σ H Q) : tUn r (tE K m) σ H Q := by
  obtain ⟨g, S, rl, r', S', hm, q⟩ := h
  obtain ⟨x, S1, h1, h2⟩ := bind_ok hm
  refine ⟨g, S, rl, x, S1, h1, fun v g1 H1 p1 rv => ?_⟩
  exact hr g1 S1 σ H H1 x v Q r' S' p1.rel rv h2 fun v' g' H' p rr => q v' g' H' (p1.trans p) (RepR.from p1.fr rr)
theorem tE_op {ma mb : M R} {f : R → R → M R} {r : R2} (hr : Op2 K f r) (h : tE K (M.bind ma fun x => M.bind mb fun y => f x y) σ H Q) : tOp r (tE K ma) (tE K mb) σ H Q := by
  obtain ⟨g, S, rl, r', S', hm, q⟩ := h
  obtain ⟨x, S1, h1, hm⟩ := bind_ok hm
  obtain ⟨y, S2, h2, h3⟩ := bind_ok hm
  refine ⟨g, S, rl, x, S1, h1, fun v g1 H1 p1 rv => ⟨g1, S1, p1.rel, y, S2, h2, fun w g2 H2 p2 rw => ?_⟩⟩
  exact hr g2 S2 σ H H2 x y v w Q r' S' p2.rel (rv.mono p1.rel p2) (RepR.from p1.fr rw) h3 fun v' g' H' p rr => q v' g' H' ((p1.trans p2).trans p) (RepR.from (p1.trans p2).fr rr)

theorem op2_bin (op : Bop) : Op2 K (bin op) (rBin K op) := by
  intro g S σ H0 H x y v w Q r' S' rl rx ry h q
  unfold bin at h
  split at h
  · rename_i a b ha hb
    unfold liftR at h
    split at h
    · rename_i r hr
      cases h
      refine ⟨g, a, b, r', rx.ct rl ha, ry.ct rl hb, hr, fun v' H' res => ?_⟩
      obtain ⟨p, rr⟩ := res.fin rl
      exact q v' g H' p rr
    · cases h
  · cases h
theorem op2_cmp (op : Cop) : Op2 K (cmp op) (rCmp K op) := by
  intro g S σ H0 H x y v w Q r' S' rl rx ry h q
  unfold cmp at h
  split at h
  · rename_i a b ha hb
    unfold liftR at h
    split at h
    · rename_i r hr
      cases h
      obtain ⟨k, hk, rfl⟩ := Option.map_eq_some_iff.mp hr
      exact ⟨g, a, b, k, rx.ct rl ha, ry.ct rl hb, hk, q _ g H (.refl rl) rfl⟩
    · cases h
  · cases h
theorem op2_idx : Op2 K idx (rIdx K) := by
  intro g S σ H0 H x y v w Q r' S' rl rx ry h q
  unfold idx at h
  split at h
  · rename_i a b ha hb
    unfold liftR at h
    split at h
    · rename_i r hr
      cases h
      obtain ⟨d, hk, rfl⟩ := Option.map_eq_some_iff.mp hr
      exact ⟨g, a, b, d, rx.ct rl ha, ry.ct rl hb, hk, fun v' hv => q v' g H (.refl rl) hv⟩
    · cases h
  · cases h
theorem asInt_ok {g : Gh} {S S' : Sta} {H0 : Hp} {x : R} {v : V} {i : Int} (rl : Rel K g S σ H) (rx : RepR K g S σ H0 H x v) (h : asInt x S = .ok i S') : v = .int i ∧ S' = S := by
  unfold asInt at h
  split at h
  · rename_i j hj
    cases h
    exact ⟨rx.ct rl hj, rfl⟩
  · cases h
theorem asBl_ok {g : Gh} {S S' : Sta} {H0 : Hp} {x : R} {v : V} {b : Bool} (rl : Rel K g S σ H) (rx : RepR K g S σ H0 H x v) (h : asBl x S = .ok b S') : v = .bl b ∧ S' = S := by
  cases x with
  | val d => cases d <;> simp only [asBl, reduceCtorEq] at h; cases h; exact ⟨rx, rfl⟩
  | slot i =>
    simp only [asBl] at h
    split at h
    · rename_i c hc
      cases h
      obtain ⟨w, h1, h2⟩ := rl.val i _ hc
      have rx : σ[i]? = some (some v) := rx
      rw [rx] at h1; cases h1
      exact ⟨h2, rfl⟩
    · cases h
  | new o => simp [asBl] at h
theorem op1_neg : Op1 K (fun x => M.bind (asInt x) fun i => ok1 (.val (.int (-i)))) (rU fun i => .int (-i)) := by
  intro g S σ H0 H x v Q r' S' rl rx h q
  obtain ⟨i, S1, h1, h2⟩ := bind_ok h
  obtain ⟨rfl, rfl⟩ := asInt_ok rl rx h1
  cases h2
  exact ⟨i, rfl, q _ g H (.refl rl) rfl⟩
/-- a value's reading as a test's -/
theorem tQ_of {m : M R} {Q : Bool → Hp → Prop} (h : tQ K (M.bind m asBl) σ H Q) : tE K m σ H fun x H1 => ∃ c, x = .bl c ∧ Q c H1 := by
  obtain ⟨g, S, rl, b, S', hm, q⟩ := h
  obtain ⟨x, S1, h1, h2⟩ := bind_ok hm
  refine ⟨g, S, rl, x, S1, h1, fun v g1 H1 p1 rv => ?_⟩
  obtain ⟨rfl, rfl⟩ := asBl_ok p1.rel rv h2
  exact ⟨b, rfl, q g1 H1 p1⟩
theorem PT.ofE {e : Expr} {m : M R} (h : PE X e (tE X.K m)) (hp : isPlain e = true) : PT X e (tQ X.K (M.bind m asBl)) :=
  PT.imp (pt_val h (plain_test hp X.env)) fun σ H Q q => tQ_of q
/-- a compare's reading as a test's -/
theorem PT.ofT {e : Expr} {m : M R} {t : TE} (h : PT X e (tTest t)) (k : ∀ σ H Q, tE X.K m σ H Q → t σ H Q) : PT X e (tQ X.K (M.bind m asBl)) :=
  PT.imp h fun σ H Q q => k σ H _ (tQ_of q)

/-! ### names, constants, displays -/
theorem sim_const {e : Expr} {d : D} {v : V} (h : PE X e (tC v)) (hv : ∀ g H, Rep X.K g H d v) : PE X e (tE X.K (ok1 (.val d))) := by
  refine PE.imp h fun σ H Q ⟨g, S, rl, r, S', hm, q⟩ => ?_
  cases hm
  exact q v g H (.refl rl) (hv g H)
variable {cal : Cal} {k : Kx} {mu : List Nat}
theorem sim_var (c : Cxt cal k X) {i : Nat} {x : Str} {pos : Pos} (h : visB k i x = true) : PE X (.Name x pos) (tE X.K (denE cal mu (.var i))) := by
  obtain ⟨h1, h2, h3, h4⟩ := c.vis h
  refine PE.imp (pe_var h1 h2 h3 h4) fun σ H Q ⟨g, S, rl, r, S', hm, q⟩ => ?_
  simp only [denE] at hm
  split at hm
  · rename_i d hd
    cases hm
    obtain ⟨v, e1, e2⟩ := rl.val i d hd
    exact ⟨v, e1, q v g H (.refl rl) e2⟩
  · rename_i o ho
    cases hm
    obtain ⟨a, e1, e2, e3⟩ := rl.own i o ho
    exact ⟨.ref a, e1, q _ g H (.refl rl) e1⟩
  · cases hm
/-- arguments -/
theorem sim_nilD : PA X [] (tDs X.K (fun s => .ok [] s)) := by
  refine PA.imp pa_nil fun σ H Q ⟨g, S, rl, ds, S', hm, q⟩ => ?_
  cases hm
  exact q [] g H (.refl rl) rfl
theorem sim_consD {e : Expr} {es : List Expr} {m : M R} {ms : M (List D)} (h : PE X e (tE X.K m)) (hs : PA X es (tDs X.K ms)) (hst : starEach (e :: es) X.env = (false, eval e X.env) :: starEach es X.env) :
    PA X (e :: es) (tDs X.K (M.bind (M.bind m NH.frz) fun d => M.bind ms fun ds => fun s => .ok (d :: ds) s)) := by
  refine PA.imp (pa_cons (PE.toD h) hs hst) fun σ H Q ⟨g, S, rl, ds, S', hm, q⟩ => ?_
  obtain ⟨d, S1, h1, hm⟩ := bind_ok hm
  obtain ⟨ds', S2, h2, hm⟩ := bind_ok hm
  cases hm
  refine ⟨g, S, rl, d, S1, h1, fun v g1 H1 p1 rv => ⟨g1, S1, p1.rel, ds', _, h2, fun vs g2 H2 p2 rvs => ?_⟩⟩
  exact q (v :: vs) g2 H2 (p1.trans p2) ⟨v, vs, rfl, rv.stay (p2.stay p1.rel), rvs⟩
theorem RepRs.mono {g g' : Gh} {S S' : Sta} {H0 H H' : Hp} (rl : Rel K g S σ H) (p : Po K g S σ H g' S' H') : ∀ {rs : List R} {vs : List V}, RepRs K g S σ H0 H rs vs → RepRs K g' S' σ H0 H' rs vs
  | [], _, h => h
  | r :: rs, _, h => by
    unfold RepRs at h ⊢
    obtain ⟨v, t, e, h1, h2, h3⟩ := h
    exact ⟨v, t, e, h1.mono rl p, h2, RepRs.mono rl p h3⟩
theorem RepRs.back {g : Gh} {S : Sta} {H0 H H'' : Hp} (k : ∀ a, H0 a = none → H'' a = none) : ∀ {rs : List R} {vs : List V}, RepRs K g S σ H0 H rs vs → RepRs K g S σ H'' H rs vs
  | [], _, h => h
  | r :: rs, _, h => by
    unfold RepRs at h ⊢
    obtain ⟨v, t, e, h1, h2, h3⟩ := h
    exact ⟨v, t, e, h1.back k, h2, RepRs.back k h3⟩
/-- a thing that stood ahead is none of the later new ones -/
theorem RepRs.apart {g : Gh} {S : Sta} {H0 H : Hp} {a : Addr} {u : HO} (h0 : H0 a = some u) : ∀ {rs : List R} {vs : List V}, RepRs K g S σ H0 H rs vs → NewApart (.ref a) rs vs
  | [], _, h => fun j o e => by simp at e
  | r :: rs, _, h => fun j o e => by
    unfold RepRs at h
    obtain ⟨v, t, rfl, h1, h2, h3⟩ := h
    cases j with
    | zero =>
      simp at e; subst e
      obtain ⟨b, rfl, _, hb, _⟩ := h1
      intro z
      simp at z; subst z
      rw [h0] at hb; cases hb
    | succ j => simpa using RepRs.apart h0 h3 j o (by simpa using e)
theorem sim_nilA : PA X [] (tAs X.K (fun s => .ok [] s)) := by
  refine PA.imp pa_nil fun σ H Q ⟨g, S, rl, ds, S', hm, q⟩ => ?_
  cases hm
  exact q [] g H (.refl rl) rfl
theorem sim_consA {e : Expr} {es : List Expr} {m : M R} {ms : M (List R)} (h : PE X e (tE X.K m)) (hs : PA X es (tAs X.K ms)) (hst : starEach (e :: es) X.env = (false, eval e X.env) :: starEach es X.env) :
    PA X (e :: es) (tAs X.K (M.bind m fun d => M.bind ms fun ds => fun s => .ok (d :: ds) s)) := by
  refine PA.imp (pa_cons h hs hst) fun σ H Q ⟨g, S, rl, ds, S', hm, q⟩ => ?_
  obtain ⟨r, S1, h1, hm⟩ := bind_ok hm
  obtain ⟨rs, S2, h2, hm⟩ := bind_ok hm
  cases hm
  refine ⟨g, S, rl, r, S1, h1, fun v g1 H1 p1 rv => ⟨g1, S1, p1.rel, rs, _, h2, fun vs g2 H2 p2 rvs => ?_⟩⟩
  refine q (v :: vs) g2 H2 (p1.trans p2) ⟨v, vs, rfl, rv.mono p1.rel p2, fun o ho => ?_, rvs.back fun a ha => p1.fr.there a ha⟩
  subst ho
  obtain ⟨a, rfl, ro, _⟩ := rv
  obtain ⟨u, hu, _⟩ := ro.mut
  exact RepRs.apart hu rvs
theorem sim_tup {es : List Expr} {k0 : Nat} {pos : Pos} {ms : M (List D)} (h : PA X es (tDs X.K ms)) : PE X (.Tuple es k0 pos) (tE X.K (M.bind ms fun ds => if ds.length ≤ 1000 then ok1 (.val (.tup ds)) else bad)) := by
  refine PE.imp (pe_tupF h) fun σ H Q ⟨g, S, rl, r, S', hm, q⟩ => ?_
  obtain ⟨ds, S1, h1, hm⟩ := bind_ok hm
  split at hm
  · rename_i hz
    cases hm
    refine ⟨g, S, rl, ds, _, h1, fun vs g1 H1 p1 rv => ⟨?_, fun p o hp ho => ?_⟩⟩
    · rw [rv.length, sizeLine_eq]; omega
    · exact q (.ref p) g1 _ (p1.trans (.fresh p1.rel hp)) (.tupNew hp ho rv)
  · cases hm
theorem sim_lst {es : List Expr} {pos : Pos} {ms : M (List D)} (h : PA X es (tDs X.K ms)) : PE X (.List es pos) (tE X.K (M.bind ms fun ds => if ds.length ≤ 1000 then ok1 (.new (.lst ds)) else bad)) := by
  refine PE.imp (pe_lst h) fun σ H Q ⟨g, S, rl, r, S', hm, q⟩ => ?_
  obtain ⟨ds, S1, h1, hm⟩ := bind_ok hm
  split at hm
  · rename_i hz
    cases hm
    refine ⟨g, S, rl, ds, _, h1, fun vs g1 H1 p1 rv => ⟨?_, fun p hp => ?_⟩⟩
    · rw [rv.length, sizeLine_eq]; omega
    · exact q (.ref p) g1 _ (p1.trans (.fresh p1.rel hp)) (.lstNew p1.rel hp rv (p1.fr.there p hp))
  · cases hm
theorem RepR.dNew {g : Gh} {S : Sta} {H0 : Hp} {p : Addr} {o : O} {u : HO} (r : Rel K g S σ H) (hp : H p = none) (ho : RepO K g (upd H p u) o p) (h0 : H0 p = none) : RepR K g S σ H0 (upd H p u) (.new o) (.ref p) :=
  let ⟨h1, h2⟩ := r.notNew hp
  ⟨p, rfl, ho, h0, h1, h2⟩
theorem pe_dnewX {pos : Pos} : PE X (.Dict [] [] pos) (fun _ H Q => ∀ p, H p = none → (p == sysModules) = false → Q (.ref p) (upd H p (.ext (dtP p [])))) := ⟨fun pins s σ H Q I h => by
  have hb : (s.heap.objs.size == sysModules) = false := beq_eq_false_iff_ne.mpr (Ne.symm (Nat.ne_of_lt I.big))
  refine wpAny_Dict_empty ⟨.ref s.heap.objs.size, _, I.laid (a := s.heap.objs.size) (o := .ext (dtP s.heap.objs.size [])) (t' := s.toks) (fun _ _ q => Heap.get?_push_of_some _ q) (Nat.le_refl _) ?_, rfl, h _ (I.hok.fresh (Nat.le_refl _)) hb⟩
  exact ⟨⟨_, #[], 0, Heap.get?_push_size _ rfl, ⟨rfl, rfl, rfl⟩, rfl, rfl, List.nodup_nil⟩, ⟨_, Heap.get?_push_size _ rfl⟩, fun h1 h2 ⟨o, es, ep, w1, w2⟩ k => ⟨o, es, ep, k o w1, w2⟩⟩⟩
theorem sim_dnew {t : Bool} {pos : Pos} : PE X (.Dict [] [] pos) (tE X.K (ok1 (.new (if t = true then .dt [] else .dk [])))) := by
  cases t with
  | true =>
    refine PE.imp pe_dnewX fun σ H Q ⟨g, S, rl, r, S', hm, q⟩ p hp hs => ?_
    cases hm
    exact q (.ref p) g _ (.fresh rl hp) (.dNew rl hp ⟨[], upd_same, hs, Nat.zero_le _, rfl⟩ hp)
  | false =>
    refine PE.imp pe_dnewK fun σ H Q ⟨g, S, rl, r, S', hm, q⟩ p hp => ?_
    cases hm
    exact q (.ref p) g _ (.fresh rl hp) (.dNew rl hp ⟨[], upd_same, rfl⟩ hp)

/-! ### operators -/
variable {a b c : Expr} {ma mb mc : M R} {pos : Pos}
theorem sim_bin (op : Bop) (ha : PE X a (tE X.K ma)) (hb : PE X b (tE X.K mb)) : PE X (.BinOp a (bop op) b pos) (tE X.K (M.bind ma fun x => M.bind mb fun y => bin op x y)) :=
  PE.imp (pe_op (op_bin op) ha hb) fun _ _ _ h => tE_op (op2_bin op) h
theorem sim_neg (ha : PE X a (tE X.K ma)) : PE X (.UnaryOp .USub a pos) (tE X.K (M.bind ma fun x => M.bind (asInt x) fun i => ok1 (.val (.int (-i))))) :=
  PE.imp (pe_un un_neg ha) fun _ _ _ h => tE_un op1_neg h
theorem sim_cmp (hu : X.A.units + 65 < cLine) (op : Cop) (ha : PE X a (tE X.K ma)) (hb : PE X b (tE X.K mb)) (hm : behindInMarks (cop op) b = false) : PE X (.Compare a [cop op] [b] pos) (tE X.K (M.bind ma fun x => M.bind mb fun y => cmp op x y)) :=
  PE.imp (pe_cmpR (op_cmp hu op) ha hb hm) fun _ _ _ h => tE_op (op2_cmp op) h
theorem sim_cmpT (hu : X.A.units + 65 < cLine) (op : Cop) (ha : PE X a (tE X.K ma)) (hb : PE X b (tE X.K mb)) (hm : behindInMarks (cop op) b = false) :
    PT X (.Compare a [cop op] [b] pos) (tQ X.K (M.bind (M.bind ma fun x => M.bind mb fun y => cmp op x y) asBl)) :=
  PT.ofT (pt_cmpR (op_cmp hu op) ha hb hm) fun _ _ _ h => tE_op (op2_cmp op) h
theorem sim_idx (hu : X.A.units + 1 < cLine) (ha : PE X a (tE X.K ma)) (hb : PE X b (tE X.K mb)) (hs : PlainIx b) : PE X (.Subscript a b pos) (tE X.K (M.bind ma fun x => M.bind mb fun y => idx x y)) :=
  PE.imp (pe_ix (ix_all hu) ha hb hs) fun _ _ _ h => tE_op op2_idx h
theorem tE_chain {op op' : Cop} {Q : VK} (h : tE X.K (M.bind ma fun x => M.bind mb fun y => M.bind (cmp op x y) fun z => M.bind (asBl z) fun k => if k = true then M.bind mc fun w => cmp op' y w else ok1 (.val (.bl false))) σ H Q) :
    tChain (rCmp X.K op) (rCmp X.K op') (tE X.K ma) (tE X.K mb) (tE X.K mc) σ H Q := by
  obtain ⟨g, S, rl, r', S', hm, q⟩ := h
  obtain ⟨x, S1, h1, hm⟩ := bind_ok hm
  obtain ⟨y, S2, h2, hm⟩ := bind_ok hm
  obtain ⟨z, S3, h3, hm⟩ := bind_ok hm
  obtain ⟨k, S4, h4, hk4⟩ := bind_ok hm
  refine ⟨g, S, rl, x, S1, h1, fun v g1 H1 p1 rv => ⟨g1, S1, p1.rel, y, S2, h2, fun w g2 H2 p2 rw => ?_⟩⟩
  refine op2_cmp op g2 S2 σ H H2 x y v w _ z S3 p2.rel (rv.mono p1.rel p2) (RepR.from p1.fr rw) h3 fun v' g3 H3 p3 rr => ?_
  obtain ⟨rfl, rfl⟩ := asBl_ok p3.rel rr h4
  refine ⟨k, rfl, ?_⟩
  by_cases hk : k = true
  · rw [if_pos hk] at hk4 ⊢
    obtain ⟨w', S5, h5, hm⟩ := bind_ok hk4
    refine ⟨g3, _, p3.rel, w', S5, h5, fun u g4 H4 p4 ru => ?_⟩
    have p12 := (p1.trans p2).trans p3
    refine op2_cmp op' g4 S5 σ H H4 y w' w u Q r' S' p4.rel (((RepR.from p1.fr rw).mono p2.rel p3).mono p3.rel p4) (RepR.from p12.fr ru) hm fun v' g' H' p rr => ?_
    exact q v' g' H' ((p12.trans p4).trans p) (RepR.from (p12.trans p4).fr rr)
  · rw [if_neg hk] at hk4 ⊢
    cases hk4
    exact q _ g3 H3 ((p1.trans p2).trans p3) rfl
theorem sim_cmp2 (hu : X.A.units + 65 < cLine) (op op' : Cop) (ha : PE X a (tE X.K ma)) (hb : PE X b (tE X.K mb)) (hc : PE X c (tE X.K mc)) (hm : lastMarks [cop op, cop op'] [b, c] = false) :
    PE X (.Compare a [cop op, cop op'] [b, c] pos) (tE X.K (M.bind ma fun x => M.bind mb fun y => M.bind (cmp op x y) fun z => M.bind (asBl z) fun k => if k = true then M.bind mc fun w => cmp op' y w else ok1 (.val (.bl false)))) :=
  PE.imp (pe_chain (op_cmp hu op) (op_cmp hu op') ha hb hc hm) fun _ _ _ h => tE_chain h
theorem sim_cmp2T (hu : X.A.units + 65 < cLine) (op op' : Cop) (ha : PE X a (tE X.K ma)) (hb : PE X b (tE X.K mb)) (hc : PE X c (tE X.K mc)) (hm : lastMarks [cop op, cop op'] [b, c] = false) :
    PT X (.Compare a [cop op, cop op'] [b, c] pos) (tQ X.K (M.bind (M.bind ma fun x => M.bind mb fun y => M.bind (cmp op x y) fun z => M.bind (asBl z) fun k => if k = true then M.bind mc fun w => cmp op' y w else ok1 (.val (.bl false))) asBl)) :=
  PT.ofT (pt_chain (op_cmp hu op) (op_cmp hu op') ha hb hc hm) fun _ _ _ h => tE_chain h
/-! ### not, and, or -/
theorem sim_notT (ha : PT X a (tQ X.K (M.bind ma asBl))) : PT X (.UnaryOp .Not a pos) (tQ X.K (M.bind (M.bind ma fun x => M.bind (asBl x) fun b => ok1 (.val (.bl (!b)))) asBl)) := by
  refine PT.imp (pt_not ha) fun σ H Q ⟨g, S, rl, b, S', hm, q⟩ => ?_
  obtain ⟨r, S1, hm, h2⟩ := bind_ok hm
  obtain ⟨x, S2, h3, hm⟩ := bind_ok hm
  obtain ⟨b', S3, h4, hm⟩ := bind_ok hm
  cases hm
  cases h2
  refine ⟨g, S, rl, b', _, ?_, fun g' H' p => q g' H' p⟩
  unfold M.bind
  rw [h3]
  exact h4
theorem sim_not (ha : PE X a (tE X.K ma)) : PE X (.UnaryOp .Not a pos) (tE X.K (M.bind ma fun x => M.bind (asBl x) fun b => ok1 (.val (.bl (!b))))) := by
  refine PE.imp (pe_not ha) fun σ H Q ⟨g, S, rl, r, S', hm, q⟩ => ?_
  obtain ⟨x, S1, h1, hm⟩ := bind_ok hm
  obtain ⟨b, S2, h2, hm⟩ := bind_ok hm
  cases hm
  refine ⟨g, S, rl, x, S1, h1, fun v g1 H1 p1 rv => ?_⟩
  obtain ⟨rfl, rfl⟩ := asBl_ok p1.rel rv h2
  exact ⟨b, rfl, q _ g1 H1 p1 rfl⟩
/-! ### slices -/
def tOI (K : PySem.W.Frag) (m : M (Option Int)) : TO := fun σ H Q => ∃ g S, Rel K g S σ H ∧ ∃ o S', m S = .ok o S' ∧ ∀ g' H', Po K g S σ H g' S' H' → Q o H'
theorem sim_noneO : PO X none (tOI X.K (fun s => .ok none s)) := by
  refine ⟨fun pins s σ H Q I ⟨g, S, rl, o, S', hm, q⟩ => po_none.run pins s σ H Q I ?_⟩
  cases hm
  exact q g H (.refl rl)
theorem sim_someO (ha : PE X a (tE X.K ma)) : PO X (some a) (tOI X.K (M.bind ma fun x => M.bind (asInt x) fun i => fun s => .ok (some i) s)) := by
  refine ⟨fun pins s σ H Q I ⟨g, S, rl, o, S', hm, q⟩ => (po_some ha).run pins s σ H Q I ?_⟩
  obtain ⟨x, S1, h1, hm⟩ := bind_ok hm
  obtain ⟨i, S2, h2, hm⟩ := bind_ok hm
  cases hm
  refine ⟨g, S, rl, x, S1, h1, fun v g1 H1 p1 rv => ?_⟩
  obtain ⟨rfl, rfl⟩ := asInt_ok p1.rel rv h2
  exact ⟨i, rfl, q g1 H1 p1⟩
theorem sim_slc {lo hi : Option Expr} {ml mh : M (Option Int)} {p2 : Pos} (ha : PE X a (tE X.K ma)) (hl : PO X lo (tOI X.K ml)) (hh : PO X hi (tOI X.K mh)) :
    PE X (.Subscript a (.Slice lo hi none p2) pos) (tE X.K (M.bind ma fun x => M.bind ml fun l => M.bind mh fun h => slc x l h)) := by
  refine PE.imp (pe_slice sl_all ha hl hh) fun σ H Q ⟨g, S, rl, r, S', hm, q⟩ => ?_
  obtain ⟨x, S1, h1, hm⟩ := bind_ok hm
  obtain ⟨l, S2, h2, hm⟩ := bind_ok hm
  obtain ⟨h, S3, h3, hm⟩ := bind_ok hm
  refine ⟨g, S, rl, x, S1, h1, fun v g1 H1 p1 rv => ⟨g1, S1, p1.rel, l, S2, h2, fun g2 H2 p2 => ⟨g2, S2, p2.rel, h, S3, h3, fun g3 H3 p3 => ?_⟩⟩⟩
  unfold slc at hm
  split at hm
  · rename_i ct hct
    unfold liftR at hm
    split at hm
    · rename_i r' hr
      cases hm
      have rv3 := (rv.mono p1.rel p2).mono p2.rel p3
      refine ⟨g3, ct, _, rv3.ct p3.rel hct, hr, fun v' H' res => ?_⟩
      obtain ⟨p, rr⟩ := res.fin p3.rel
      exact q v' g3 H' (((p1.trans p2).trans p3).trans p) (RepR.from ((p1.trans p2).trans p3).fr rr)
    · cases hm
  · cases hm
end
end NH

set_option Elab.async false
set_option linter.all false
set_option maxRecDepth 100000
set_option maxHeartbeats 1000000
set_option autoImplicit false
namespace NH
open PySem L2
section
variable {K : PySem.W.Frag} {X : Cx} {σ : St} {H : Hp} {Q : VK} {a b c : Expr} {ma mb mc : M R} {pos : Pos}

/-! ### and, or -/
theorem tQ_and {an : Bool} {Q : Bool → Hp → Prop} (h : tQ K (M.bind (M.bind ma fun x => M.bind (asBl x) fun b => if b = an then mb else ok1 (.val (.bl b))) asBl) σ H Q) :
    tQ K (M.bind ma asBl) σ H fun c H1 => if c = an then tQ K (M.bind mb asBl) σ H1 Q else Q c H1 := by
  obtain ⟨g, S, rl, b, S', hm, q⟩ := h
  obtain ⟨r, S1, hm, h2⟩ := bind_ok hm
  obtain ⟨x, S2, h3, hm⟩ := bind_ok hm
  obtain ⟨c, S3, h4, hm⟩ := bind_ok hm
  refine ⟨g, S, rl, c, S3, by unfold M.bind; rw [h3]; exact h4, fun g1 H1 p1 => ?_⟩
  by_cases hc : c = an
  · rw [if_pos hc] at hm ⊢
    exact ⟨g1, S3, p1.rel, b, S', by unfold M.bind; rw [hm]; exact h2, fun g2 H2 p2 => q g2 H2 (p1.trans p2)⟩
  · rw [if_neg hc] at hm ⊢
    cases hm
    cases h2
    exact q g1 H1 p1
theorem tE_and {an : Bool} (h : tE K (M.bind ma fun x => M.bind (asBl x) fun b => if b = an then mb else ok1 (.val (.bl b))) σ H Q) :
    tE K ma σ H fun x H1 => ∃ c, x = .bl c ∧ if c = an then tE K mb σ H1 Q else Q (.bl c) H1 := by
  obtain ⟨g, S, rl, b, S', hm, q⟩ := h
  obtain ⟨x, S2, h3, hm⟩ := bind_ok hm
  obtain ⟨c, S3, h4, hk⟩ := bind_ok hm
  refine ⟨g, S, rl, x, S2, h3, fun v g1 H1 p1 rv => ?_⟩
  obtain ⟨rfl, rfl⟩ := asBl_ok p1.rel rv h4
  refine ⟨c, rfl, ?_⟩
  by_cases hc : c = an
  · rw [if_pos hc] at hk ⊢
    exact ⟨g1, _, p1.rel, b, S', hk, fun v' g2 H2 p2 rv' => q v' g2 H2 (p1.trans p2) (RepR.from p1.fr rv')⟩
  · rw [if_neg hc] at hk ⊢
    cases hk
    exact q _ g1 H1 p1 rfl
def opB (an : Bool) : BoolOp := if an = true then .And else .Or
theorem sim_boo1 {an : Bool} (ha : PE X a (tE X.K ma)) : PE X (.BoolOp (opB an) [a] pos) (tE X.K ma) := pe_one ha
theorem sim_boo1T {an : Bool} (ha : PT X a (tQ X.K (M.bind ma asBl))) : PW X (.BoolOp (opB an) [a] pos) (tQ X.K (M.bind ma asBl)) := by
  cases an
  · exact pw_or1 ha
  · exact pw_and1 ha
theorem sim_boo {an : Bool} {b : Expr} {rest : List Expr} (ha : PE X a (tE X.K ma)) (hb : PE X (.BoolOp (opB an) (b :: rest) pos) (tE X.K mb)) :
    PE X (.BoolOp (opB an) (a :: b :: rest) pos) (tE X.K (M.bind ma fun x => M.bind (asBl x) fun b => if b = an then mb else ok1 (.val (.bl b)))) := by
  cases an
  · refine PE.imp (pe_or ha hb) fun σ H Q h => ?_
    obtain ⟨g, S, rl, x, S', hm, q⟩ := tE_and h
    refine ⟨g, S, rl, x, S', hm, fun v g' H' p rv => ?_⟩
    obtain ⟨c, e, w⟩ := q v g' H' p rv
    refine ⟨c, e, ?_⟩
    cases c <;> simpa using w
  · refine PE.imp (pe_and ha hb) fun σ H Q h => ?_
    obtain ⟨g, S, rl, x, S', hm, q⟩ := tE_and h
    refine ⟨g, S, rl, x, S', hm, fun v g' H' p rv => ?_⟩
    obtain ⟨c, e, w⟩ := q v g' H' p rv
    refine ⟨c, e, ?_⟩
    cases c <;> simpa using w
theorem sim_booT {an : Bool} {b : Expr} {rest : List Expr} (ha : PT X a (tQ X.K (M.bind ma asBl))) (hb : PW X (.BoolOp (opB an) (b :: rest) pos) (tQ X.K (M.bind mb asBl))) :
    PW X (.BoolOp (opB an) (a :: b :: rest) pos) (tQ X.K (M.bind (M.bind ma fun x => M.bind (asBl x) fun b => if b = an then mb else ok1 (.val (.bl b))) asBl)) := by
  cases an
  · refine PW.imp (pw_or ha hb) fun σ H Q h => ?_
    obtain ⟨g, S, rl, x, S', hm, q⟩ := tQ_and h
    refine ⟨g, S, rl, x, S', hm, fun g' H' p => ?_⟩
    have w := q g' H' p
    cases x <;> simpa using w
  · refine PW.imp (pw_and ha hb) fun σ H Q h => ?_
    obtain ⟨g, S, rl, x, S', hm, q⟩ := tQ_and h
    refine ⟨g, S, rl, x, S', hm, fun g' H' p => ?_⟩
    have w := q g' H' p
    cases x <;> simpa using w

/-! ### built-ins -/
theorem boot_blt {f : Blt} {x : Str} {u : Value} (h : bltV f = some (x, u)) : bootBuiltins x = some u ∧ x ∈ bltNames := by
  cases f <;> simp only [bltV, Option.some.injEq, Prod.mk.injEq, reduceCtorEq] at h <;> obtain ⟨rfl, rfl⟩ := h <;> exact ⟨by decide +kernel, by decide +kernel⟩
theorem tE_blt {f : Blt} {ms : M (List R)} (h : tE K (M.bind ms fun rs => blt f rs) σ H Q) : tCB (rBlt K f) (tAs K ms) σ H Q := by
  obtain ⟨g, S, rl, r, S', hm, q⟩ := h
  obtain ⟨rs, S1, h1, hm⟩ := bind_ok hm
  refine ⟨g, S, rl, rs, S1, h1, fun vs g1 H1 p1 rv => ?_⟩
  unfold blt at hm
  split at hm
  · rename_i cs hcs
    unfold liftR at hm
    split at hm
    · rename_i r' hr
      cases hm
      refine ⟨g1, cs, _, derefs_rep p1.rel rv hcs, hr, fun v H' res => ?_⟩
      obtain ⟨p, rr⟩ := res.fin p1.rel
      exact q v g1 H' (p1.trans p) (RepR.from p1.fr rr)
    · cases hm
  · cases hm
variable {cal : Cal} {k : Kx} {mu : List Nat}
theorem sim_blt (cx : Cxt cal k X) {f : Blt} {x : Str} {u : Value} {e : Expr} {es : List Expr} {ms : M (List R)} {p : Pos} (hf : bltV f = some (x, u)) (hg : glB k x = true) (ha : PA X (e :: es) (tAs X.K ms))
    (he : starEach (e :: es) X.env = (false, eval e X.env) :: starEach es X.env) (hpl : (backTo pos (starEach es X.env)).any (·.1) = false) : PE X (.Call (.Name x p) (e :: es) [] pos) (tE X.K (M.bind ms fun rs => blt f rs)) := by
  obtain ⟨hv, hx⟩ := boot_blt hf
  obtain ⟨h1, h2, h3⟩ := cx.gl hg
  have hm := cx.blt x hx
  cases f <;> simp only [bltV, Option.some.injEq, Prod.mk.injEq, reduceCtorEq] at hf <;> obtain ⟨rfl, rfl⟩ := hf
  · exact PE.imp (pe_callB (call_blt cx.calm (f := .len) rfl) h1 hm hv ha h3 h2 he hpl) fun _ _ _ h => tE_blt h
  · exact PE.imp (pe_callTy (call_blt cx.calm (f := .tuple) rfl) h1 hm hv ha h3 h2 he hpl) fun _ _ _ h => tE_blt h
  · exact PE.imp (pe_callTy (call_blt cx.calm (f := .list) rfl) h1 hm hv ha h3 h2 he hpl) fun _ _ _ h => tE_blt h
  · exact PE.imp (pe_callTy (call_blt cx.calm (f := .int) rfl) h1 hm hv ha h3 h2 he hpl) fun _ _ _ h => tE_blt h
  · exact PE.imp (pe_callTy (call_blt cx.calm (f := .str) rfl) h1 hm hv ha h3 h2 he hpl) fun _ _ _ h => tE_blt h
  · exact PE.imp (pe_callB (call_blt cx.calm (f := .max2) rfl) h1 hm hv ha h3 h2 he hpl) fun _ _ _ h => tE_blt h
  · exact PE.imp (pe_callB (call_blt cx.calm (f := .min2) rfl) h1 hm hv ha h3 h2 he hpl) fun _ _ _ h => tE_blt h
  · exact PE.imp (pe_callB (call_blt cx.calm (f := .max1) rfl) h1 hm hv ha h3 h2 he hpl) fun _ _ _ h => tE_blt h
  · exact PE.imp (pe_callB (call_blt cx.calm (f := .min1) rfl) h1 hm hv ha h3 h2 he hpl) fun _ _ _ h => tE_blt h
  · exact PE.imp (pe_callB (call_blt cx.calm (f := .all) rfl) h1 hm hv ha h3 h2 he hpl) fun _ _ _ h => tE_blt h
  · exact PE.imp (pe_callB (call_blt cx.calm (f := .any) rfl) h1 hm hv ha h3 h2 he hpl) fun _ _ _ h => tE_blt h
  · exact PE.imp (pe_callB (call_blt cx.calm (f := .sum) rfl) h1 hm hv ha h3 h2 he hpl) fun _ _ _ h => tE_blt h
/-- one argument's reading, for the built-ins of one argument -/
theorem tE_blt1 {f : Blt} {W : V → Hp → Prop} (h : tE K (M.bind (M.bind ma fun d => M.bind (fun s => Out.ok ([] : List R) s) fun ds => fun s => .ok (d :: ds) s) fun rs => blt f rs) σ H Q)
    (hw : ∀ g S x v H1 r, Rel K g S σ H1 → RepC K g H1 x v → blt1 f x = some r → (∀ v' H', Res K g H1 r v' H' → Q v' H') → W v H1) : tE K ma σ H W := by
  obtain ⟨g, S, rl, r, S', hm, q⟩ := h
  obtain ⟨rs, S1, h1, hm⟩ := bind_ok hm
  obtain ⟨x, S2, h2, h1⟩ := bind_ok h1
  obtain ⟨_, S3, h3, h1⟩ := bind_ok h1
  cases h3
  cases h1
  refine ⟨g, S, rl, x, _, h2, fun v g1 H1 p1 rv => ?_⟩
  unfold blt derefs at hm
  cases hx : deref S1 x with
  | none => simp [hx] at hm
  | some ct =>
    simp only [hx, derefs, bltCt, liftR] at hm
    split at hm
    · rename_i r' hr
      cases hm
      refine hw g1 _ ct v H1 _ p1.rel (rv.ct p1.rel hx) hr fun v' H' res => ?_
      obtain ⟨p, rr⟩ := res.fin p1.rel
      exact q v' g1 H' (p1.trans p) (RepR.from p1.fr rr)
    · cases hm
theorem rgV_rep {g : Gh} (lo hi : Int) : RepAll K g H (rangeL lo hi) (rgV lo hi) := by
  unfold rangeL rgV
  generalize List.range (hi - lo).toNat = l
  induction l with
  | nil => simp [RepAll]
  | cons a l ih =>
    simp only [List.map_cons]
    unfold RepAll
    exact ⟨_, _, rfl, rfl, ih⟩
theorem small62_iff {i : Int} (h : small62 i = true) : -(2 ^ 62) ≤ i ∧ i < 2 ^ 62 := by
  unfold small62 at h
  exact dc_iff.mp h
theorem sim_lrange (cx : Cxt cal k X) {p p' pos' : Pos} (hg : glB k "list" = true) (hg' : glB k "range" = true) (ha : PE X a (tE X.K ma)) (hn : starEach [a] X.env = (false, eval a X.env) :: starEach [] X.env) :
    PE X (.Call (.Name "list" p) [.Call (.Name "range" p') [a] [] pos'] [] pos) (tE X.K (M.bind (M.bind ma fun d => M.bind (fun s => Out.ok ([] : List R) s) fun ds => fun s => .ok (d :: ds) s) fun rs => blt .lrange rs)) := by
  obtain ⟨h1, _, _⟩ := cx.gl hg
  obtain ⟨h2, _, _⟩ := cx.gl hg'
  refine PE.imp (pe_listRg cx.calm h1 (cx.blt _ (by decide +kernel)) (prg_1 h2 (cx.blt _ (by decide +kernel)) ha hn)) fun σ H Q h => ?_
  refine tE_blt1 h fun g S x v H1 r rl rv hr q => ?_
  simp only [blt1] at hr
  obtain ⟨n, hn, hr⟩ := Option.bind_eq_some_iff.mp hr
  split at hr
  · rename_i hc
    cases hr
    obtain ⟨b1, b2⟩ := small62_iff hc.1
    have hz := hc.2
    rw [sizeLine_eq] at hz
    exact ⟨n, rv.int hn, ⟨by decide, by decide, b1, b2, by omega⟩, fun l hl => q _ _ (.lst hl (rgV_rep 0 n))⟩
  · cases hr
theorem sim_trange (cx : Cxt cal k X) {p p' pos' : Pos} (hg : glB k "tuple" = true) (hg' : glB k "range" = true) (ha : PE X a (tE X.K ma)) (hn : starEach [a] X.env = (false, eval a X.env) :: starEach [] X.env) :
    PE X (.Call (.Name "tuple" p) [.Call (.Name "range" p') [a] [] pos'] [] pos) (tE X.K (M.bind (M.bind ma fun d => M.bind (fun s => Out.ok ([] : List R) s) fun ds => fun s => .ok (d :: ds) s) fun rs => blt .trange rs)) := by
  obtain ⟨h1, _, _⟩ := cx.gl hg
  obtain ⟨h2, _, _⟩ := cx.gl hg'
  refine PE.imp (pe_tupRgF cx.calm h1 (cx.blt _ (by decide +kernel)) (prg_1 h2 (cx.blt _ (by decide +kernel)) ha hn)) fun σ H Q h => ?_
  refine tE_blt1 h fun g S x v H1 r rl rv hr q => ?_
  simp only [blt1] at hr
  obtain ⟨n, hn, hr⟩ := Option.bind_eq_some_iff.mp hr
  split at hr
  · rename_i hc
    cases hr
    obtain ⟨b1, b2⟩ := small62_iff hc.1
    have hz := hc.2
    rw [sizeLine_eq] at hz
    exact ⟨n, rv.int hn, ⟨by decide, by decide, b1, b2, by omega⟩, fun l o hl ho => q _ _ (.tup hl ho (rgV_rep 0 n))⟩
  · cases hr
/-! ### isinstance -/
theorem RepC.ty {g : Gh} {c : Ct} {v : V} {t : String} (h : RepC K g H c v) (e : tyCt c = some t) : TyX K H v (.type t) := by
  cases c with
  | d d =>
    cases d <;> simp [tyCt] at e <;> subst e
    · have h : v = .non := h; subst h; exact .base .non
    · have h : v = .bl _ := h; subst h; exact .base (.bl _)
    · have h : v = .int _ := h; subst h; exact .base (.int _)
    · have h : v = .str _ := h; subst h; exact .base (.str _)
    · have h' : Rep K g H (.tup _) v := h
      unfold Rep at h'
      obtain ⟨p, ws, rfl, ⟨o, h1, _⟩, h2⟩ := h'
      exact .fTuple h1
  | o o =>
    cases o <;> simp [tyCt] at e
    subst e
    obtain ⟨p, ws, rfl, h1 | ⟨ob, h1⟩, h2⟩ := h
    · exact .base (.lst h1)
    · exact .base (.frz h1)
def tyNames : List String := ["list", "tuple", "int", "bool", "str", "NoneType"]
theorem tyCt_mem {c : Ct} {t : String} (e : tyCt c = some t) : t ∈ tyNames := by
  cases c with
  | d d => cases d <;> simp [tyCt] at e <;> subst e <;> decide
  | o o => cases o <;> simp [tyCt] at e; subst e; decide
theorem kit_tab : ∀ t ∈ tyNames, kitB t "tuple" = some (t == "tuple") ∧ kitB t "list" = some (t == "list") ∧ kitB t "bool" = some (t == "bool") := by decide +kernel
theorem pe_ty (cx : Cxt cal k X) {x : Str} {n : String} {p : Pos} (hg : glB k x = true) (hx : x ∈ bltNames) (hv : bootBuiltins x = some (.type n)) : PE X (.Name x p) (tC (.ty n)) := by
  obtain ⟨h1, h2, h3⟩ := cx.gl hg
  exact pe_bltn h1 (cx.blt x hx) hv rfl h3 h2
theorem sim_isi (cx : Cxt cal k X) {f : Blt} {x : Str} {n : String} {p p' : Pos} (hf : ∀ c, blt1 f c = (tyCt c).map fun t => .val (.bl (t == n))) (hn : ∀ t ∈ tyNames, kitB t n = some (t == n)) (hx : x ∈ bltNames) (hv : bootBuiltins x = some (.type n))
    (hg : glB k "isinstance" = true) (hg' : glB k x = true) (ha : PE X a (tE X.K ma)) (hst : ∀ es, starEach (a :: es) X.env = (false, eval a X.env) :: starEach es X.env) :
    PE X (.Call (.Name "isinstance" p) [a, .Name x p'] [] pos) (tE X.K (M.bind (M.bind ma fun d => M.bind (fun s => Out.ok ([] : List R) s) fun ds => fun s => .ok (d :: ds) s) fun rs => blt f rs)) := by
  obtain ⟨h1, h2, h3⟩ := cx.gl hg
  refine PE.imp (pe_callB call_isi h1 (cx.blt _ (by decide +kernel)) (by decide +kernel) (pa_cons ha (pa_cons (pe_ty cx hg' hx hv) pa_nil rfl) (hst _)) h3 h2 (hst _) rfl) fun σ H Q h => ?_
  refine tE_blt1 h fun g S c v H1 r rl rv hr q => ?_
  rw [hf] at hr
  obtain ⟨t, ht, rfl⟩ := Option.map_eq_some_iff.mp hr
  exact ⟨v, .ty n, .type t, .type n, _, rfl, .ty n, rv.ty ht, kit_ty (hn t (tyCt_mem ht)), q _ _ (.bl _)⟩
theorem sim_islt (cx : Cxt cal k X) {p p1 p2 p3 : Pos} {k0 : Nat} (hg : glB k "isinstance" = true) (hg1 : glB k "list" = true) (hg2 : glB k "tuple" = true) (ha : PE X a (tE X.K ma)) (hst : ∀ es, starEach (a :: es) X.env = (false, eval a X.env) :: starEach es X.env) :
    PE X (.Call (.Name "isinstance" p) [a, .Tuple [.Name "list" p1, .Name "tuple" p2] k0 p3] [] pos) (tE X.K (M.bind (M.bind ma fun d => M.bind (fun s => Out.ok ([] : List R) s) fun ds => fun s => .ok (d :: ds) s) fun rs => blt .islt rs)) := by
  obtain ⟨h1, h2, h3⟩ := cx.gl hg
  refine PE.imp (pe_callB call_isiT h1 (cx.blt _ (by decide +kernel)) (by decide +kernel) (pa_cons ha (pa_cons (pe_tup (pa_cons (pe_ty cx (n := "list") hg1 (by decide +kernel) (by decide +kernel)) (pa_cons (pe_ty cx (n := "tuple") hg2 (by decide +kernel) (by decide +kernel)) pa_nil rfl) rfl)) pa_nil rfl) (hst _)) h3 h2 (hst _) rfl) fun σ H Q h => ?_
  refine tE_blt1 h fun g S c v H1 r rl rv hr q => ?_
  obtain ⟨t, ht, rfl⟩ := Option.map_eq_some_iff.mp (show (tyCt c).map (fun t => R.val (.bl (t == "list" || t == "tuple"))) = some r from hr)
  refine ⟨by show 2 ≤ sizeLine; decide, fun tp htp => ?_⟩
  have st : Stay g g H1 (upd H1 tp (.tup [.ty "list", .ty "tuple"])) := Stay.fresh htp
  have rv' : RepC X.K g (upd H1 tp (.tup [.ty "list", .ty "tuple"])) c v := by
    cases c with
    | d d => exact Rep.stay st d v rv
    | o o =>
      cases o <;> simp [tyCt] at ht
      obtain ⟨a, vs, rfl, h1 | ⟨ob, h1⟩, h2⟩ := rv
      · exact ⟨a, vs, rfl, .inl (by rw [upd_ne (ne_of_none h1 htp)]; exact h1), h2.stay st⟩
      · exact ⟨a, vs, rfl, .inr ⟨ob, by rw [upd_ne (ne_of_none h1 htp)]; exact h1⟩, h2.stay st⟩
  obtain ⟨k1, k2, _⟩ := kit_tab t (tyCt_mem ht)
  refine ⟨v, tp, _, .type t, [.type "list", .type "tuple"], (t == "list" || t == "tuple"), rfl, upd_same, .cons (.ty _) (.cons (.ty _) .nil), rv'.ty ht, ?_, ?_⟩
  · refine kitAny_cons (kit_ty k2) (fun hb => ?_) fun hb => by rw [hb]; rfl
    rw [hb, Bool.false_or]
    refine kitAny_cons (kit_ty k1) (fun hb' => by rw [hb']; rfl) fun hb' => hb'
  · exact q _ _ ⟨.inr ⟨tp, _, htp, rfl⟩, rfl⟩
end
end NH

set_option Elab.async false
set_option linter.all false
set_option maxRecDepth 100000
set_option maxHeartbeats 1000000
set_option autoImplicit false
namespace NH
open PySem L2
section
variable {K : PySem.W.Frag} {g : Gh} {X : Cx} {σ : St} {H : Hp} {Q : VK} {o e : Expr} {es : List Expr} {mo : M R} {ms : M (List D)} {apos cpos : Pos} {name : Str}
/-! ### o.m(..), whatever the type is known by -/
def TyR (X : Cx) (T : String) (ty : V → Hp → Prop) : Prop := ∀ (pins : List (Addr × Obj)) (s : Shared) (σ : St) (H : Hp) (x : V) (v : Value), L2.Inv X pins σ H s → RelV x v → ty x H → s.TypeIs v T ∧ ∀ a, v = .ref a → ∃ ob, s.heap.get? a = some ob ∧ ob.dict = none
def tBMX (ty : V → Hp → Prop) (r : V → List V → Hp → VK → Prop) (to : TE) (t : TA) : TE := fun σ H Q => to σ H fun x H1 => ty x H1 ∧ t σ H1 fun xs H2 => r x xs H2 Q
theorem pe_bmX0 {T id : String} {ty : V → Hp → Prop} {r : V → List V → Hp → VK → Prop} {to : TE} (ht : TyR X T ty) (pa : PlainAttrs T) (slot : Slot T name id) (hty : typeOf (.builtin id) = pure (.type "method_descriptor")) (hm : MtR X id r) (ho : PE X o to)
    (hbase : attributeBase o name X.env (eval o X.env) = eval o X.env) (hline : (apos.endLine == cpos.line) = true) : PE X (.Call (.Attribute o name apos) [] [] cpos) (tBMX ty r to tNil) := by
  refine ⟨fun pins s σ H Q I h => ?_⟩
  refine wpAny_Call_method0_late hbase hline (thn (ho.run pins s σ H _ I h) fun v s1 ⟨x, H1, I1, r1, tx, q1⟩ => ?_)
  obtain ⟨h1, h2⟩ := ht pins s1 σ H1 x v I1 r1 tx
  exact ⟨T, id, pa, slot, hty, h1, h2, Calls.callWith_builtin rfl (PySem.evalArgs_none (hm pins s1 σ H1 x [] v [] Q I1 r1 .nil q1))⟩
theorem pe_bmX {T id : String} {ty : V → Hp → Prop} {r : V → List V → Hp → VK → Prop} {to : TE} {t : TA} (ht : TyR X T ty) (pa : PlainAttrs T) (slot : Slot T name id) (hty : typeOf (.builtin id) = pure (.type "method_descriptor")) (hm : MtR X id r) (ho : PE X o to) (ha : PA X (e :: es) t)
    (hbase : attributeBase o name X.env (eval o X.env) = eval o X.env)
    (hfew : ((backTo cpos (starEach (e :: es) X.env)).all (fun x => !x.1) && (backToKw cpos (keywordEach [] X.env)).all (fun x => x.1.isSome)
      && decide ((e :: es).length + ([] : List Keyword).length + (if ([] : List Keyword).isEmpty then 0 else 1) < 30)) = true)
    (hline : (apos.endLine == cpos.line) = true) (hs : starEach (e :: es) X.env = (false, eval e X.env) :: starEach es X.env) (hplain : (backTo cpos (starEach es X.env)).any (·.1) = false) :
    PE X (.Call (.Attribute o name apos) (e :: es) [] cpos) (tBMX ty r to t) := by
  refine ⟨fun pins s σ H Q I h => ?_⟩
  refine wpAny_Call_method_late hbase hfew hline rfl (thn (ho.run pins s σ H _ I h) fun v s1 ⟨x, H1, I1, r1, tx, q1⟩ => ?_)
  obtain ⟨h1, h2⟩ := ht pins s1 σ H1 x v I1 r1 tx
  refine ⟨T, id, pa, slot, hty, h1, h2, ?_⟩
  have hA := ha.run cpos pins s1 σ H1 _ I1 q1
  rw [hs] at hA ⊢
  refine Calls.callWith_builtin (by show (false || (backTo cpos (starEach es X.env)).any (·.1)) = false; rw [hplain] <;> rfl) (Calls.evalArgs_plain ?_)
  exact thn hA fun us s2 ⟨vs, H2, I2, r2, q2⟩ => hm pins s2 σ H2 x vs v us Q I2 r1 r2 q2
theorem PE.or {t t' : TE} (h : PE X e t) (h' : PE X e t') : PE X e (fun σ H Q => t σ H Q ∨ t' σ H Q) := by
  refine ⟨fun pins s σ H Q I q => ?_⟩
  rcases q with q | q
  · exact h.run pins s σ H Q I q
  · exact h'.run pins s σ H Q I q
/-! the types -/
def tyL (x : V) (H : Hp) : Prop := ∃ p vs, x = .ref p ∧ Rd H p (.lst vs)
def tyT (x : V) (H : Hp) : Prop := ∃ p vs, x = .ref p ∧ ExT H p vs
def tyDict (x : V) (H : Hp) : Prop := ∃ K g kvs p, x = .ref p ∧ (RepO K g H (.dk kvs) p ∨ ∃ kvs, RepO K g H (.dt kvs) p)
theorem ty_lst : TyR X "list" tyL := by
  intro pins s σ H x v I r h
  obtain ⟨p, vs, rfl, h⟩ := h
  cases r
  obtain ⟨z, its, n, rv, hl, e⟩ := rd_lst I h
  exact ⟨⟨_, e, rfl⟩, fun a ea => by cases ea; exact ⟨_, e, rfl⟩⟩
theorem ty_tup : TyR X "tuple" tyT := by
  intro pins s σ H x v I r h
  obtain ⟨p, vs, rfl, ob, h, hd⟩ := h
  cases r
  obtain ⟨e, _, its, _, o', e', hc, _⟩ := I.hok p _ h
  rw [e] at e'; cases e'
  exact ⟨⟨ob, e, hc⟩, fun a ea => by cases ea; exact ⟨ob, e, hd⟩⟩
theorem ty_dict : TyR X "dict" tyDict := by
  intro pins s σ H x v I r h
  obtain ⟨K, g, kvs, p, rfl, h | ⟨kvs, h⟩⟩ := h
  · cases r
    obtain ⟨ks, h1, _⟩ := h
    obtain ⟨_, _, _, _, o, _, _, e, ex, _⟩ := I.hok p _ h1
    exact ⟨⟨o, e, ex.1⟩, fun a ea => by cases ea; exact ⟨o, e, ex.2.1⟩⟩
  · cases r
    obtain ⟨xs, h1, _⟩ := h
    obtain ⟨⟨o, es, ep, q1, q2, _⟩, _, _⟩ := I.hok p _ h1
    exact ⟨⟨o, q1, q2.1⟩, fun a ea => by cases ea; exact ⟨o, q1, q2.2.1⟩⟩
/-! the methods -/
def rMut (K : PySem.W.Frag) (m : Mth) : V → List V → Hp → VK → Prop := fun x vs H Q => ∃ g xs ds p ys a, x = .ref p ∧ RepO K g H (.lst xs) p ∧ RepAll K g H ds vs ∧ mutL m xs ds = some (ys, a) ∧ ∀ ws v, RepAll K g H ys ws → Rep K g H a v → Q v (upd H p (.lst ws))
theorem one_iff {ds : List D} {d : D} (h : one ds = some d) : ds = [d] := by
  unfold one at h
  split at h
  · cases h; rfl
  · cases h
theorem two_iff {ds : List D} {p : D × D} (h : two ds = some p) : ds = [p.1, p.2] := by
  unfold two at h
  split at h
  · cases h; rfl
  · cases h
theorem mt_appendX : MtR X "list.append" (rMut X.K .append) := by
  intro pins s σ H x vs v us Q I rx rv h
  obtain ⟨g, xs, ds, p, ys, a, rfl, ⟨ws, h1, h2⟩, h3, hm, q⟩ := h
  simp only [mutL] at hm
  obtain ⟨d, hd, hm⟩ := Option.bind_eq_some_iff.mp hm
  split at hm
  · rename_i hz
    cases hm
    have := one_iff hd
    subst this
    obtain ⟨w, rfl, hw⟩ := h3.one
    exact mt_append pins s σ H _ _ v us Q I rx rv ⟨p, ws, w, rfl, rfl, h1, by rw [h2.length]; exact hz, q _ _ (h2.append ⟨w, [], rfl, hw, rfl⟩) rfl⟩
  · cases hm
theorem mt_extendX : MtR X "list.extend" (rMut X.K .extend) := by
  intro pins s σ H x vs v us Q I rx rv h
  obtain ⟨g, xs, ds, p, ys, a, rfl, ⟨ws, h1, h2⟩, h3, hm, q⟩ := h
  simp only [mutL] at hm
  obtain ⟨zs, hd, hm⟩ := Option.bind_eq_some_iff.mp hm
  obtain ⟨d, hd, hz⟩ := Option.bind_eq_some_iff.mp hd
  have := one_iff hd
  subst this
  obtain ⟨w, rfl, hw⟩ := h3.one
  cases d <;> simp [dLst] at hz
  subst hz
  unfold Rep at hw
  obtain ⟨b, zv, rfl, ⟨ob, hb⟩, hzv⟩ := hw
  split at hm
  · rename_i hz
    cases hm
    exact mt_extendR pins s σ H _ _ v us Q I rx rv ⟨p, b, ws, zv, rfl, rfl, h1, .inr ⟨ob, hb⟩, by rw [h2.length, hzv.length]; exact hz, q _ _ (h2.append hzv) rfl⟩
  · cases hm
theorem mt_pop0X : MtR X "list.pop" (rMut X.K .pop0) := by
  intro pins s σ H x vs v us Q I rx rv h
  obtain ⟨g, xs, ds, p, ys, a, rfl, ⟨ws, h1, h2⟩, h3, hm, q⟩ := h
  simp only [mutL] at hm
  split at hm
  · rename_i he
    obtain ⟨d, hd, e⟩ := Option.map_eq_some_iff.mp hm
    cases e
    have : ds = [] := by simpa using he
    subst this
    have : vs = [] := h3
    subst this
    rw [← h2.length] at hd
    obtain ⟨w, hw, rw⟩ := h2.get hd
    exact mt_pop pins s σ H _ _ v us Q I rx rv ⟨p, ws, w, rfl, rfl, h1, hw, q _ _ h2.dropLast rw⟩
  · cases hm
theorem mt_pop1X : MtR X "list.pop" (rMut X.K .pop1) := by
  intro pins s σ H x vs v us Q I rx rv h
  obtain ⟨g, xs, ds, p, ys, a, rfl, ⟨ws, h1, h2⟩, h3, hm, q⟩ := h
  simp only [mutL] at hm
  obtain ⟨i, hd, hm⟩ := Option.bind_eq_some_iff.mp hm
  obtain ⟨d, hd, hi⟩ := Option.bind_eq_some_iff.mp hd
  have := one_iff hd
  subst this
  obtain ⟨w, rfl, hw⟩ := h3.one
  cases d <;> simp [dInt] at hi
  subst hi
  split at hm
  · rename_i hz
    obtain ⟨k, hk, hm⟩ := Option.bind_eq_some_iff.mp hm
    obtain ⟨d, hd, e⟩ := Option.map_eq_some_iff.mp hm
    cases e
    obtain ⟨y, hy, ry⟩ := h2.get hd
    exact mt_popAt pins s σ H _ _ v us Q I rx rv ⟨p, ws, _, k, y, rfl, by have hw : w = .int _ := hw; rw [hw], h1, (dc_iff.mp hz).1, (dc_iff.mp hz).2, by rw [h2.length]; exact hk, hy, q _ _ (h2.eraseIdx k) ry⟩
  · cases hm
theorem mt_clearX : MtR X "list.clear" (rMut X.K .clear) := by
  intro pins s σ H x vs v us Q I rx rv h
  obtain ⟨g, xs, ds, p, ys, a, rfl, ⟨ws, h1, h2⟩, h3, hm, q⟩ := h
  simp only [mutL] at hm
  split at hm
  · rename_i he
    cases hm
    have : ds = [] := by simpa using he
    subst this
    have : vs = [] := h3
    subst this
    exact mt_clear pins s σ H _ _ v us Q I rx rv ⟨p, ws, rfl, rfl, h1, q _ _ rfl rfl⟩
  · cases hm
/-- what a method that changes asks of the evaluator's step -/
theorem tE_mut {m : Mth} (hm : m.muts = true) (h : tE K (M.bind mo fun r => M.bind (kindM m r) fun T => M.bind ms fun ds => mth m T r ds) σ H Q) : tBMX tyL (rMut K m) (tE K mo) (tDs K ms) σ H Q := by
  obtain ⟨g, S, rl, r', S', hb, q⟩ := h
  obtain ⟨r, S1, h1, hb1⟩ := bind_ok hb
  obtain ⟨_, S2, h2, hb2⟩ := bind_ok hb1
  obtain ⟨ds, S3, h3, hb3⟩ := bind_ok hb2
  clear hb hb1 hb2
  refine ⟨g, S, rl, r, S1, h1, fun v g1 H1 p1 rv => ?_⟩
  unfold kindM at h2
  split at h2
  · rename_i T hT
    cases h2
    obtain ⟨c, hc, hT⟩ := Option.bind_eq_some_iff.mp hT
    have hl : ∃ xs, c = .o (.lst xs) := by
      cases c with
      | d d => cases d <;> simp [mthT] at hT; cases m <;> simp [Mth.muts] at hm <;> simp at hT
      | o o =>
        cases o with
        | lst xs => exact ⟨xs, rfl⟩
        | _ => cases m <;> simp [Mth.muts] at hm <;> simp [mthT] at hT
    obtain ⟨xs, rfl⟩ := hl
    obtain ⟨p, vs, rfl, hp, _⟩ := rv.ct p1.rel hc
    refine ⟨⟨p, vs, rfl, hp⟩, g1, _, p1.rel, ds, S3, h3, fun ws g2 H2 p2 rws => ?_⟩
    unfold mth at hb3
    split at hb3
    · rename_i c2 hc2
      simp only [hm, if_true] at hb3
      split at hb3
      case isFalse => cases hb3
      cases c2 with
      | d d => simp at hb3
      | o o =>
        cases o with
        | lst xs2 =>
          simp only [mutO] at hb3
          cases hmu : mutL m xs2 ds with
          | none => simp [hmu] at hb3
          | some pr =>
            obtain ⟨ys, a⟩ := pr
            simp only [hmu, Option.map_some] at hb3
            obtain ⟨_, S4, h4, hb4⟩ := bind_ok hb3
            cases hb4
            obtain ⟨p', e, ho, hpo⟩ := setPl_ok p2.rel (rv.mono p1.rel p2) hc2 h4
            refine ⟨g2, xs2, ds, p', ys, a, e, ho, rws, hmu, fun us v' hus hv' => ?_⟩
            obtain ⟨vs2, ha, hvs2⟩ := ho
            have st : Stay g2 g2 H2 (upd H2 p' (.lst us)) := Stay.mut ha trivial
            have po := hpo (.lst us) ⟨us, upd_same, hus.stay st⟩
            exact q v' g2 _ ((p1.trans p2).trans po) (Rep.stay st a v' hv')
        | dk kvs => simp [mutO] at hb3
        | dt kvs => simp [mutO] at hb3
        | ins c fs => simp [mutO] at hb3
    · cases hb3
  · cases h2
/-! index, get -/
theorem RepAll.findIdx {d : D} {v : V} (hv : Rep K g H d v) (fd : d.flat = true) {ds : List D} {vs : List V} {j : Nat} (h : RepAll K g H ds vs) (fl : ds.all D.flat = true) (e : (ds.findIdx? fun z => z.eqb d) = some j) :
    ∃ z, vs[j]? = some z ∧ L2.eqV z v = true ∧ ∀ (m : Nat) (z' : V), m < j → vs[m]? = some z' → L2.eqV z' v = false := by
  obtain ⟨x, h1, h2, h3⟩ := findIdx_get e
  obtain ⟨z, hz, rz⟩ := h.get h1
  have fx : x.flat = true := List.all_eq_true.mp fl x (List.mem_of_getElem? h1)
  refine ⟨z, hz, by rw [rz.eqV hv fx fd]; exact h2, fun m z' hm hz' => ?_⟩
  have hml : m < ds.length := by rw [← h.length]; exact (List.getElem?_eq_some_iff.mp hz').1
  obtain ⟨w, hw, rw⟩ := h.get (List.getElem?_eq_getElem hml)
  rw [hz'] at hw; cases hw
  have fy : ds[m].flat = true := List.all_eq_true.mp fl _ (List.getElem_mem hml)
  rw [rw.eqV hv fy fd]
  exact h3 m _ hm (List.getElem?_eq_getElem hml)
def rIndexX (K : PySem.W.Frag) : V → List V → Hp → VK → Prop := fun x vs H Q => ∃ g c d w j, RepC K g H c x ∧ vs = [w] ∧ Rep K g H d w ∧ idxOf c d = some j ∧ Q (.int (j : Nat)) H
theorem mt_indexL (hu : X.A.units + 65 < cLine) : MtR X "list.index" (fun x vs H Q => rIndexX X.K x vs H Q ∧ tyL x H) := by
  intro pins s σ H x vs v us Q I rx rv h
  obtain ⟨⟨g, c, d, w, j, hc, rfl, hw, e, q⟩, p0, ws0, rfl, hp0⟩ := h
  unfold idxOf at e
  split at e
  · rename_i xs
    split at e
    · rename_i hf
      have hf : d.eqOk = true ∧ (D.lst xs).eqOk = true := by simpa using hf
      obtain ⟨p1, s1⟩ := eqOk_iff hf.1
      obtain ⟨p2, s2⟩ := eqOk_iff hf.2
      have d2 := hc.dp (d := .lst xs) rfl p2
      have pp : D.pures xs = true := by simpa [D.pure] using p2
      unfold D.py at d2 s2
      obtain ⟨y, h1, h2, h3⟩ := findIdx_get e
      refine mt_indexD hu pins s σ H _ _ v us Q I rx rv ⟨p0, w, d.py, D.pys xs, j, y.py, rfl, rfl, d2, Rep.dp d w p1 hw, s2, s1, ?_, ?_, fun m z' hm hz' => ?_, q⟩
      · rw [pys_map, List.getElem?_map, h1]; rfl
      · rw [← eqb_py y d (pures_mem pp y (List.mem_of_getElem? h1)) p1]; exact h2
      · rw [pys_map, List.getElem?_map] at hz'
        obtain ⟨y', hy', rfl⟩ := Option.map_eq_some_iff.mp hz'
        rw [← eqb_py y' d (pures_mem pp y' (List.mem_of_getElem? hy')) p1]
        exact h3 m y' hm hy'
    · cases e
  · rename_i xs
    exfalso
    have hc' : Rep X.K g H (.tup xs) (.ref p0) := hc
    unfold Rep at hc'
    obtain ⟨p, vs, e2, ⟨o, ho, _⟩, _⟩ := hc'
    cases e2
    rcases hp0 with hp0 | ⟨o', hp0⟩
    · rw [ho] at hp0; cases hp0
    · rw [ho] at hp0; cases hp0
  · cases e
theorem mt_indexT : MtR X "tuple.index" (fun x vs H Q => rIndexX X.K x vs H Q ∧ tyT x H) := by
  intro pins s σ H x vs v us Q I rx rv h
  obtain ⟨⟨g, c, d, w, j, hc, rfl, hw, e, q⟩, p0, ws0, rfl, hp0⟩ := h
  unfold idxOf at e
  split at e
  · rename_i xs
    exfalso
    obtain ⟨p, vs, e2, hr, _⟩ := hc
    cases e2
    obtain ⟨o, ho, _⟩ := hp0
    rcases hr with hr | ⟨o', hr⟩
    · rw [ho] at hr; cases hr
    · rw [ho] at hr; cases hr
  · rename_i xs
    split at e
    · rename_i hf
      have hf : d.flat = true ∧ xs.all D.flat = true := by simpa using hf
      have hc' : Rep X.K g H (.tup xs) (.ref p0) := hc
      unfold Rep at hc'
      obtain ⟨p, vs, e2, hx, hvs⟩ := hc'
      cases e2
      obtain ⟨z, hz, hzv, hno⟩ := hvs.findIdx hw hf.1 hf.2 e
      exact mt_tupIndex pins s σ H _ _ v us Q I rx rv ⟨p0, vs, w, j, z, rfl, rfl, hx.sq, hw.flatV hf.1, (any_flat hw hf.1 hvs hf.2).1, hz, hzv, hno, q⟩
    · cases e
  · cases e
def rCountX (K : PySem.W.Frag) : V → List V → Hp → VK → Prop := fun x vs H Q => ∃ g c d w j, RepC K g H c x ∧ vs = [w] ∧ Rep K g H d w ∧ cntOf c d = some j ∧ Q (.int (j : Nat)) H
theorem count_py {d : D} {xs : List D} (hd : d.pure = true) (hx : D.pures xs = true) : ((D.pys xs).countP fun y => PyData.eqv y d.py) = xs.countP fun z => z.eqb d := by
  rw [pys_map, List.countP_map]
  exact List.countP_congr fun z hz => by
    show PyData.eqv z.py d.py = true ↔ _
    rw [eqb_py z d (pures_mem hx z hz) hd]
theorem mt_countL (hu : X.A.units + 65 < cLine) : MtR X "list.count" (fun x vs H Q => rCountX X.K x vs H Q ∧ tyL x H) := by
  intro pins s σ H x vs v us Q I rx rv h
  obtain ⟨⟨g, c, d, w, j, hc, rfl, hw, e, q⟩, p0, ws0, rfl, hp0⟩ := h
  obtain ⟨u, rfl, ru⟩ := rv.one
  cases rx
  unfold cntOf at e
  split at e
  · rename_i xs
    split at e
    · rename_i hf
      have hf : d.eqOk = true ∧ (D.lst xs).eqOk = true := by simpa using hf
      obtain ⟨p1, s1⟩ := eqOk_iff hf.1
      obtain ⟨p2, s2⟩ := eqOk_iff hf.2
      have d2 := hc.dp (d := .lst xs) rfl p2
      have pp : D.pures xs = true := by simpa [D.pure] using p2
      unfold D.py at d2 s2
      cases e
      obtain ⟨bs, r1⟩ := Dp.reads I d.py w u (Rep.dp d w p1 hw) ru
      have hxs : PyData.canLayAll0 (D.pys xs) = true := SeqAt.canLay_of_shaped s2
      cases d2 with
      | lst hs ha =>
        obtain ⟨its, rv2, p', hlen⟩ := I.list hs
        obtain ⟨as, h4⟩ := Dp.readsAll I _ _ its ha rv2
        refine SeqAt.count_list_data (vs := its.toArray) p'.isList (show ReadsAll s.heap its.toArray.toList (D.pys xs) as from h4) r1 (PyData.plainAll_of_canLay0 _ hxs) (PyData.plain_of_canLay0 _ (SeqAt.canLay_of_shaped s1)) (by have := SeqAt.depth_of_shaped s1; have : min (PyData.depthAll (D.pys xs)) d.py.depth ≤ d.py.depth := Nat.min_le_right _ _; omega) ?_
        rw [count_py p1 pp]
        exact ⟨.int _, H, I.tok _, ⟨_, rfl⟩, q⟩
    · cases e
  · rename_i xs
    exfalso
    have hc' : Rep X.K g H (.tup xs) (.ref p0) := hc
    unfold Rep at hc'
    obtain ⟨p, vs, e2, ⟨o, ho, _⟩, _⟩ := hc'
    cases e2
    rcases hp0 with hp0 | ⟨o', hp0⟩
    · rw [ho] at hp0; cases hp0
    · rw [ho] at hp0; cases hp0
  · cases e
theorem mt_countT (hu : X.A.units + 65 < cLine) : MtR X "tuple.count" (fun x vs H Q => rCountX X.K x vs H Q ∧ tyT x H) := by
  intro pins s σ H x vs v us Q I rx rv h
  obtain ⟨⟨g, c, d, w, j, hc, rfl, hw, e, q⟩, p0, ws0, rfl, hp0⟩ := h
  obtain ⟨u, rfl, ru⟩ := rv.one
  cases rx
  unfold cntOf at e
  split at e
  · rename_i xs
    exfalso
    obtain ⟨p, vs, e2, hr, _⟩ := hc
    cases e2
    obtain ⟨o, ho, _⟩ := hp0
    rcases hr with hr | ⟨o', hr⟩
    · rw [ho] at hr; cases hr
    · rw [ho] at hr; cases hr
  · rename_i xs
    split at e
    · rename_i hf
      have hf : d.eqOk = true ∧ (D.tup xs).eqOk = true := by simpa using hf
      obtain ⟨p1, s1⟩ := eqOk_iff hf.1
      obtain ⟨p2, s2⟩ := eqOk_iff hf.2
      have d2 := hc.dp (d := .tup xs) rfl p2
      have pp : D.pures xs = true := by simpa [D.pure] using p2
      unfold D.py at d2 s2
      cases e
      obtain ⟨bs, r1⟩ := Dp.reads I d.py w u (Rep.dp d w p1 hw) ru
      have hxs : PyData.canLayAll0 (D.pys xs) = true := SeqAt.canLay_of_shaped s2
      cases d2 with
      | tup hs ha =>
        obtain ⟨its, rv2, p', hlen⟩ := I.tuple hs
        obtain ⟨as, h4⟩ := Dp.readsAll I _ _ its ha rv2
        refine SeqAt.count_tuple_data (vs := its.toArray) p' (show ReadsAll s.heap its.toArray.toList (D.pys xs) as from h4) r1 (PyData.plainAll_of_canLay0 _ hxs) (PyData.plain_of_canLay0 _ (SeqAt.canLay_of_shaped s1)) (by have := SeqAt.depth_of_shaped s1; have : min (PyData.depthAll (D.pys xs)) d.py.depth ≤ d.py.depth := Nat.min_le_right _ _; omega) ?_
        rw [count_py p1 pp]
        exact ⟨.int _, H, I.tok _, ⟨_, rfl⟩, q⟩
    · cases e
  · cases e
def rGetX (K : PySem.W.Frag) : V → List V → Hp → VK → Prop := fun x vs H Q => ∃ g c d w e z r, RepC K g H c x ∧ vs = [w, z] ∧ Rep K g H d w ∧ Rep K g H e z ∧ getOf c d e = some r ∧ ∀ v, Rep K g H r v → Q v H
theorem mt_getX (hu : X.A.units + 1 < cLine) : MtR X "dict.get" (rGetX X.K) := by
  intro pins s σ H x vs v us Q I rx rv h
  obtain ⟨g, c, d, w, e, z, r, hc, rfl, hw, hz, hg, q⟩ := h
  obtain ⟨u1, u2, rfl, r1, r2⟩ := vals2 rv
  unfold getOf at hg
  split at hg
  · rename_i kvs
    obtain ⟨key, hk, rfl⟩ := Option.map_eq_some_iff.mp hg
    obtain ⟨p, rfl, ho⟩ := hc
    cases rx
    obtain ⟨o, g1, g2, g3⟩ := dget_k ho hw hk
    refine d_get2 hu I g1 r1 r2 fun w' s' I' rw' => ⟨_, H, I', rw', q _ ?_⟩
    cases ql : lookD kvs key with
    | none =>
      rw [ql] at g2
      cases o with
      | none => exact hz
      | some o => simp at g2
    | some y =>
      obtain ⟨w2, rfl, hw2⟩ := g3 y ql
      exact hw2
  · rename_i kvs
    obtain ⟨key, hk, rfl⟩ := Option.map_eq_some_iff.mp hg
    obtain ⟨p, rfl, ho⟩ := hc
    cases rx
    obtain ⟨b, rfl, hb⟩ := hw.tkey hk
    cases r1
    exact dt_get2 hu I ho hb hz r2 fun v u s' I' rv hv => ⟨v, H, I', rv, q v hv⟩
  · cases hg
end
end NH

set_option Elab.async false
set_option linter.all false
set_option maxRecDepth 100000
set_option maxHeartbeats 1000000
set_option autoImplicit false
namespace NH
open PySem L2
section
variable {K : PySem.W.Frag} {g : Gh} {X : Cx} {σ : St} {H : Hp} {Q : VK} {o e : Expr} {es : List Expr} {mo : M R} {ms : M (List D)} {apos cpos : Pos}
theorem tE_ask {m : Mth} (hm : m.muts = false) {ty : V → Hp → Prop} {r : V → List V → Hp → VK → Prop} {T : String}
    (h : ∃ g S, Rel K g S σ H ∧ ∃ r' S' x S1, mo S = .ok x S1 ∧ (deref S1 x).bind (mthT m) = some T ∧ (M.bind ms fun ds => mth m T x ds) S1 = .ok r' S' ∧ ∀ v g' H', Po K g S σ H g' S' H' → RepR K g' S' σ H H' r' v → Q v H')
    (hty : ∀ g S H1 c v, Rel K g S σ H1 → RepC K g H1 c v → mthT m c = some T → ty v H1)
    (hr : ∀ g c ds v vs H2 r', RepC K g H2 c v → RepAll K g H2 ds vs → ty v H2 → askO m c ds = some r' → (∀ v' H', Res K g H2 r' v' H' → Q v' H') → r v vs H2 Q) : tBMX ty r (tE K mo) (tDs K ms) σ H Q := by
  obtain ⟨g, S, rl, r', S', x, S1, h1, hT, hb2, q⟩ := h
  obtain ⟨ds, S3, h3, hb3⟩ := bind_ok hb2
  clear hb2
  refine ⟨g, S, rl, x, S1, h1, fun v g1 H1 p1 rv => ?_⟩
  obtain ⟨c, hc, hT⟩ := Option.bind_eq_some_iff.mp hT
  refine ⟨hty g1 _ H1 c v p1.rel (rv.ct p1.rel hc) hT, g1, _, p1.rel, ds, S3, h3, fun ws g2 H2 p2 rws => ?_⟩
  unfold mth at hb3
  split at hb3
  · rename_i c2 hc2
    by_cases hT2 : mthT m c2 = some T
    case neg => rw [if_neg hT2] at hb3; cases hb3
    rw [if_pos hT2, hm] at hb3
    simp only [Bool.false_eq_true, if_false, liftR] at hb3
    split at hb3
    · rename_i r2 hr2
      cases hb3
      have rc := (rv.mono p1.rel p2).ct p2.rel hc2
      refine hr g2 c2 ds v ws H2 _ rc rws (hty g2 _ H2 c2 v p2.rel rc hT2) hr2 fun v' H' res => ?_
      obtain ⟨p, rr⟩ := res.fin p2.rel
      exact q v' g2 H' ((p1.trans p2).trans p) (RepR.from (p1.trans p2).fr rr)
    · cases hb3
  · cases hb3
theorem tE_kind {m : Mth} (h : tE K (M.bind mo fun r => M.bind (kindM m r) fun T => M.bind ms fun ds => mth m T r ds) σ H Q) :
    ∃ T, ∃ g S, Rel K g S σ H ∧ ∃ r' S' x S1, mo S = .ok x S1 ∧ (deref S1 x).bind (mthT m) = some T ∧ (M.bind ms fun ds => mth m T x ds) S1 = .ok r' S' ∧ ∀ v g' H', Po K g S σ H g' S' H' → RepR K g' S' σ H H' r' v → Q v H' := by
  obtain ⟨g, S, rl, r', S', hb, q⟩ := h
  obtain ⟨x, S1, h1, hb1⟩ := bind_ok hb
  obtain ⟨T, S2, h2, hb2⟩ := bind_ok hb1
  unfold kindM at h2
  split at h2
  · rename_i T' hT
    cases h2
    exact ⟨_, g, S, rl, r', S', x, _, h1, hT, hb2, q⟩
  · cases h2
theorem RepC.tyL {c : Ct} {v : V} {m : Mth} (h : RepC K g H c v) (e : mthT m c = some "list") : tyL v H := by
  cases c with
  | d d => cases d <;> simp [mthT] at e; cases m <;> simp at e
  | o o =>
    cases o with
    | lst xs => obtain ⟨p, vs, rfl, h1, _⟩ := h; exact ⟨p, vs, rfl, h1⟩
    | _ => cases m <;> simp [mthT] at e
theorem RepC.tyT {c : Ct} {v : V} {m : Mth} (h : RepC K g H c v) (e : mthT m c = some "tuple") : tyT v H := by
  cases c with
  | d d =>
    cases d <;> simp [mthT] at e
    have h' : Rep K g H (.tup _) v := h
    unfold Rep at h'
    obtain ⟨p, vs, rfl, h1, _⟩ := h'
    exact ⟨p, vs, rfl, h1⟩
  | o o => cases o <;> cases m <;> simp [mthT] at e
theorem RepC.tyD {c : Ct} {v : V} {m : Mth} (h : RepC K g H c v) (e : mthT m c = some "dict") : tyDict v H := by
  cases c with
  | d d => cases d <;> simp [mthT] at e; cases m <;> simp at e
  | o o =>
    cases o with
    | lst xs => cases m <;> simp [mthT] at e
    | dk kvs => obtain ⟨p, rfl, h1⟩ := h; exact ⟨K, g, kvs, p, rfl, .inl h1⟩
    | dt kvs => obtain ⟨p, rfl, h1⟩ := h; exact ⟨K, g, [], p, rfl, .inr ⟨kvs, h1⟩⟩
    | ins c fs => simp [mthT] at e
variable {cal : Cal} {k : Kx} {mu : List Nat}
theorem tBMX_mono {ty : V → Hp → Prop} {r : V → List V → Hp → VK → Prop} {to : TE} {t t' : TA} (k : ∀ σ H Q, t σ H Q → t' σ H Q) (hto : ∀ σ H Q Q', (∀ v H', Q v H' → Q' v H') → to σ H Q → to σ H Q') (h : tBMX ty r to t σ H Q) : tBMX ty r to t' σ H Q :=
  hto σ H _ _ (fun v H' ⟨a, b⟩ => ⟨a, k _ _ _ b⟩) h
theorem tE_weak {m : M R} {Q' : VK} (w : ∀ v H', Q v H' → Q' v H') (h : tE K m σ H Q) : tE K m σ H Q' := let ⟨g, S, rl, r, S', hm, q⟩ := h; ⟨g, S, rl, r, S', hm, fun v g' H' p rv => w v H' (q v g' H' p rv)⟩
theorem tDs_nil {c : C} (h : chkA k c ([] : List Expr) = true) : c = .nil := by
  cases c <;> simp [chkA] at h
  rfl
theorem PE.never {e : Expr} : PE X e (fun _ _ _ => False) := ⟨fun _ _ _ _ _ _ h => h.elim⟩
theorem no_kind {m : Mth} (hk : ∀ c, mthT m c = none) (h : tE K (M.bind mo fun r => M.bind (kindM m r) fun T => M.bind ms fun ds => mth m T r ds) σ H Q) : False := by
  obtain ⟨T, g, S, rl, r', S', x, S1, h1, hT, _⟩ := tE_kind h
  obtain ⟨c, _, hT⟩ := Option.bind_eq_some_iff.mp hT
  rw [hk] at hT; cases hT
/-- o.m(..) -/
theorem sim_mth (cx : Cxt cal k X) (m : Mth) {c : C} {l : List Expr} (hl : (apos.endLine == cpos.line) = true) (hn : l.length = m.args) (h0 : noCall0 o = true) (ho : PE X o (tE X.K mo)) (hc : chkA k c l = true) (ha : PA X l (tDs X.K (denD cal mu c))) :
    PE X (.Call (.Attribute o m.name apos) l [] cpos) (tE X.K (M.bind mo fun r => M.bind (kindM m r) fun T => M.bind (denD cal mu c) fun ds => mth m T r ds)) := by
  have hb := fun name => noCall0_base h0 name X.env (eval o X.env)
  have hu := cx.hu
  -- methods without arguments
  have nil : ∀ {T id : String} {ty : V → Hp → Prop} {r : V → List V → Hp → VK → Prop} {name : Str}, l = [] → TyR X T ty → PlainAttrs T → Slot T name id → typeOf (.builtin id) = pure (.type "method_descriptor") → MtR X id r →
      PE X (.Call (.Attribute o name apos) l [] cpos) (tBMX ty r (tE X.K mo) (tDs X.K (denD cal mu c))) := by
    intro T id ty r name e ht pa slot hty hm
    subst e
    have e2 := tDs_nil hc
    subst e2
    refine PE.imp (pe_bmX0 ht pa slot hty hm ho (hb name) hl) fun σ H Q h => ?_
    refine tBMX_mono (t := tDs X.K (denD cal mu .nil)) (fun σ H Q ⟨g, S, rl, ds, S', hm, q⟩ => ?_) (fun _ _ _ _ w h => tE_weak w h) h
    simp only [denD] at hm
    cases hm
    exact q [] g H (.refl rl) rfl
  have some : ∀ {T id : String} {ty : V → Hp → Prop} {r : V → List V → Hp → VK → Prop} {name : Str}, 0 < l.length → l.length < 30 → TyR X T ty → PlainAttrs T → Slot T name id → typeOf (.builtin id) = pure (.type "method_descriptor") → MtR X id r →
      PE X (.Call (.Attribute o name apos) l [] cpos) (tBMX ty r (tE X.K mo) (tDs X.K (denD cal mu c))) := by
    intro T id ty r name e1 e2 ht pa slot hty hm
    cases l with
    | nil => simp at e1
    | cons x xs =>
      have few := chkA_few hc e2 cpos X.env
      cases c <;> try (simp [chkA] at hc; done)
      rename_i c1 cs
      have hc' : chkE k c1 x = true ∧ chkA k cs xs = true := by simpa [chkA] using hc
      exact pe_bmX ht pa slot hty hm ho ha (hb name) few hl (chkE_nostar hc'.1 _ _) (chkA_plain hc'.2 _ _)
  cases m with
  | append => exact PE.imp (some (by rw [hn]; decide) (by rw [hn]; decide) ty_lst PySem.F.plainAttrs_list PySem.F.slot_list_append PySem.F.type_list_append mt_appendX) fun _ _ _ h => tE_mut rfl h
  | extend => exact PE.imp (some (by rw [hn]; decide) (by rw [hn]; decide) ty_lst PySem.F.plainAttrs_list PySem.F.slot_list_extend PySem.F.type_list_extend mt_extendX) fun _ _ _ h => tE_mut rfl h
  | pop0 => exact PE.imp (nil (List.eq_nil_of_length_eq_zero hn) ty_lst PySem.F.plainAttrs_list PySem.F.slot_list_pop PySem.F.type_list_pop mt_pop0X) fun _ _ _ h => tE_mut rfl h
  | pop1 => exact PE.imp (some (by rw [hn]; decide) (by rw [hn]; decide) ty_lst PySem.F.plainAttrs_list PySem.F.slot_list_pop PySem.F.type_list_pop mt_pop1X) fun _ _ _ h => tE_mut rfl h
  | clear => exact PE.imp (nil (List.eq_nil_of_length_eq_zero hn) ty_lst PySem.F.plainAttrs_list PySem.F.slot_list_clear PySem.F.type_list_clear mt_clearX) fun _ _ _ h => tE_mut rfl h
  | index =>
    have A := some (name := Mth.index.name) (by rw [hn]; decide) (by rw [hn]; decide) ty_lst PySem.F.plainAttrs_list PySem.F.slot_list_index PySem.F.type_list_index (mt_indexL (X := X) (by omega))
    have B := some (name := Mth.index.name) (by rw [hn]; decide) (by rw [hn]; decide) ty_tup PySem.F.plainAttrs_tuple PySem.F.slot_tuple_index PySem.F.type_tuple_index (mt_indexT (X := X))
    have ask : ∀ {g c ds v vs H2 r' Q}, RepC X.K g H2 c v → RepAll X.K g H2 ds vs → askO .index c ds = Option.some r' → (∀ v' H', Res X.K g H2 r' v' H' → Q v' H') → rIndexX X.K v vs H2 Q := by
      intro g c ds v vs H2 r' Q rc rws hr q
      simp only [askO] at hr
      obtain ⟨d, hd, hr⟩ := Option.bind_eq_some_iff.mp hr
      obtain ⟨j, hj, rfl⟩ := Option.map_eq_some_iff.mp hr
      have := one_iff hd
      subst this
      obtain ⟨w, rfl, hw⟩ := rws.one
      exact ⟨g, c, d, w, j, rc, rfl, hw, hj, q _ _ (.int _)⟩
    refine PE.imp (PE.or A B) fun σ H Q h => ?_
    obtain ⟨T, h⟩ := tE_kind h
    have hT : T = "list" ∨ T = "tuple" := by
      obtain ⟨g, S, rl, r', S', x, S1, h1, hT, _⟩ := h
      obtain ⟨c, _, hT⟩ := Option.bind_eq_some_iff.mp hT
      cases c with
      | d d => cases d <;> simp [mthT] at hT; exact .inr hT.symm
      | o o => cases o <;> simp [mthT] at hT; exact .inl hT.symm
    rcases hT with rfl | rfl
    · exact .inl (tE_ask rfl h (fun g S H1 c v rl rc hc => rc.tyL hc) fun g c ds v vs H2 r' rc rws ty hr q => ⟨ask rc rws hr q, ty⟩)
    · exact .inr (tE_ask rfl h (fun g S H1 c v rl rc hc => rc.tyT hc) fun g c ds v vs H2 r' rc rws ty hr q => ⟨ask rc rws hr q, ty⟩)
  | get =>
    refine PE.imp (some (by rw [hn]; decide) (by rw [hn]; decide) ty_dict PySem.F.plainAttrs_dict PySem.F.slot_dict_get PySem.F.type_dict_get (mt_getX (X := X) (by omega))) fun σ H Q h => ?_
    obtain ⟨T, h⟩ := tE_kind h
    have hT : T = "dict" := by
      obtain ⟨g, S, rl, r', S', x, S1, h1, hT, _⟩ := h
      obtain ⟨c, _, hT⟩ := Option.bind_eq_some_iff.mp hT
      cases c with
      | d d => cases d <;> simp [mthT] at hT
      | o o => cases o <;> simp [mthT] at hT <;> exact hT.symm
    subst hT
    refine tE_ask rfl h (fun g S H1 c v rl rc hc => rc.tyD hc) fun g c ds v vs H2 r' rc rws ty hr q => ?_
    simp only [askO] at hr
    obtain ⟨p, hp, hr⟩ := Option.bind_eq_some_iff.mp hr
    obtain ⟨r2, hr2, rfl⟩ := Option.map_eq_some_iff.mp hr
    have := two_iff hp
    subst this
    unfold RepAll at rws
    obtain ⟨w, rest, rfl, hw, rws⟩ := rws
    obtain ⟨z, rfl, hz⟩ := rws.one
    exact ⟨g, c, p.1, w, p.2, z, r2, rc, rfl, hw, hz, hr2, fun v' hv' => q v' H2 (.same hv')⟩
  | count =>
    have A := some (name := Mth.count.name) (by rw [hn]; decide) (by rw [hn]; decide) ty_lst PySem.F.plainAttrs_list PySem.F.slot_list_count PySem.F.type_list_count (mt_countL (X := X) (by omega))
    have B := some (name := Mth.count.name) (by rw [hn]; decide) (by rw [hn]; decide) ty_tup PySem.F.plainAttrs_tuple PySem.F.slot_tuple_count PySem.F.type_tuple_count (mt_countT (X := X) (by omega))
    have ask : ∀ {g c ds v vs H2 r' Q}, RepC X.K g H2 c v → RepAll X.K g H2 ds vs → askO .count c ds = Option.some r' → (∀ v' H', Res X.K g H2 r' v' H' → Q v' H') → rCountX X.K v vs H2 Q := by
      intro g c ds v vs H2 r' Q rc rws hr q
      simp only [askO] at hr
      obtain ⟨d, hd, hr⟩ := Option.bind_eq_some_iff.mp hr
      obtain ⟨j, hj, rfl⟩ := Option.map_eq_some_iff.mp hr
      have := one_iff hd
      subst this
      obtain ⟨w, rfl, hw⟩ := rws.one
      exact ⟨g, c, d, w, j, rc, rfl, hw, hj, q _ _ (.int _)⟩
    refine PE.imp (PE.or A B) fun σ H Q h => ?_
    obtain ⟨T, h⟩ := tE_kind h
    have hT : T = "list" ∨ T = "tuple" := by
      obtain ⟨g, S, rl, r', S', x, S1, h1, hT, _⟩ := h
      obtain ⟨c, _, hT⟩ := Option.bind_eq_some_iff.mp hT
      cases c with
      | d d => cases d <;> simp [mthT] at hT; exact .inr hT.symm
      | o o => cases o <;> simp [mthT] at hT; exact .inl hT.symm
    rcases hT with rfl | rfl
    · exact .inl (tE_ask rfl h (fun g S H1 c v rl rc hc => rc.tyL hc) fun g c ds v vs H2 r' rc rws ty hr q => ⟨ask rc rws hr q, ty⟩)
    · exact .inr (tE_ask rfl h (fun g S H1 c v rl rc hc => rc.tyT hc) fun g c ds v vs H2 r' rc rws ty hr q => ⟨ask rc rws hr q, ty⟩)
  | join => exact PE.imp PE.never fun σ H Q h => no_kind (fun c => by cases c with | d d => cases d <;> rfl | o o => cases o <;> rfl) h
  | split => exact PE.imp PE.never fun σ H Q h => no_kind (fun c => by cases c with | d d => cases d <;> rfl | o o => cases o <;> rfl) h
  | replace => exact PE.imp PE.never fun σ H Q h => no_kind (fun c => by cases c with | d d => cases d <;> rfl | o o => cases o <;> rfl) h
end
end NH

set_option Elab.async false
set_option linter.all false
set_option maxRecDepth 100000
set_option maxHeartbeats 1000000
set_option autoImplicit false
namespace NH
open PySem L2
section
variable {K : PySem.W.Frag} {g g' : Gh} {S S0 S' : Sta} {X : Cx} {σ : St} {H H' : Hp} {Q : VK}
/-- a call's arguments; l: the slots that are handed over -/
def RepArs (K : PySem.W.Frag) (g : Gh) (S : Sta) (σ : St) (H0 H : Hp) : List Ar → List Nat → List V → Prop
  | [], l, vs => l = [] ∧ vs = []
  | .val d :: as, l, vs => ∃ v r, vs = v :: r ∧ Rep K g H d v ∧ RepArs K g S σ H0 H as l r
  | .own o :: as, l, vs => ∃ r i t a, vs = .ref a :: r ∧ l = i :: t ∧ (σ[i]? = some (some (.ref a)) ∨ (σ.length ≤ i ∧ H0 a = none)) ∧ RepO K g H o a ∧ a ∉ g ∧ (∀ j, ¬ OwnAt S σ j a) ∧ (∀ (n : Nat) (o' : O), as[n]? = some (.own o') → r[n]? ≠ some (.ref a)) ∧ RepArs K g S σ H0 H as t r
theorem RepArs.from0 {H1 : Hp} (hh : ∀ a, H1 a = none → H a = none) : ∀ {as : List Ar} {l : List Nat} {vs : List V}, RepArs K g S σ H1 H' as l vs → RepArs K g S σ H H' as l vs
  | [], _, _, h => h
  | .val d :: as, _, _, h => by obtain ⟨v, r, e, h1, h⟩ := h; exact ⟨v, r, e, h1, RepArs.from0 hh h⟩
  | .own o :: as, _, _, h => by
    obtain ⟨r, i, t, a, e1, e2, h1, h2, h3, h4, h5, h⟩ := h
    exact ⟨r, i, t, a, e1, e2, h1.imp id fun x => ⟨x.1, hh _ x.2⟩, h2, h3, h4, h5, RepArs.from0 hh h⟩
def tAr (K : PySem.W.Frag) (m : M (List Ar × List Nat)) : TA := fun σ H Q => ∃ g S, Rel K g S σ H ∧ ∃ p S', m S = .ok p S' ∧
  ∀ vs g' H', Po K g S σ H g' S' H' → RepArs K g' S' σ H H' p.1 p.2 vs → (∀ j ∈ p.2, j < σ.length → ∃ o, S.σ[j]? = some (.own o)) → Q vs H'
theorem sim_nilC : PA X [] (tAr X.K (fun s => .ok ([], []) s)) := by
  refine PA.imp pa_nil fun σ H Q ⟨g, S, rl, ds, S', hm, q⟩ => ?_
  cases hm
  exact q [] g H (.refl rl) ⟨rfl, rfl⟩ (fun j hj => by simp at hj)
variable {e : Expr} {es : List Expr} {m : M R} {ms : M (List Ar × List Nat)}
theorem sim_consC (h : PE X e (tE X.K m)) (hs : PA X es (tAr X.K ms)) (hst : starEach (e :: es) X.env = (false, eval e X.env) :: starEach es X.env) :
    PA X (e :: es) (tAr X.K (M.bind (M.bind m NH.frz) fun d => M.bind ms fun p => fun s => .ok (.val d :: p.1, p.2) s)) := by
  refine PA.imp (pa_cons (PE.toD h) hs hst) fun σ H Q ⟨g, S, rl, ds, S', hm, q⟩ => ?_
  obtain ⟨d, S1, h1, hm⟩ := bind_ok hm
  obtain ⟨p, S2, h2, hm⟩ := bind_ok hm
  cases hm
  refine ⟨g, S, rl, d, S1, h1, fun v g1 H1 p1 rv => ⟨g1, S1, p1.rel, p, _, h2, fun vs g2 H2 p2 rvs ho => ?_⟩⟩
  refine q (v :: vs) g2 H2 (p1.trans p2) ⟨v, vs, rfl, rv.stay (p2.stay p1.rel), rvs.from0 p1.fr.there⟩ fun j hj hl => ?_
  obtain ⟨o, ho⟩ := ho j hj hl
  exact p1.less j o ho
theorem take_ok {i : Nat} {o : O} (rl : Rel K g S σ H) (hi : S.σ[i]? = some (.own o)) : Po K g S σ H g { S with σ := S.σ.set i .no } H ∧ ∃ a, σ[i]? = some (some (.ref a)) ∧ RepO K g H o a ∧ a ∉ g ∧ ∀ j, ¬ OwnAt { S with σ := S.σ.set i .no } σ j a := by
  have il : i < S.σ.length := (List.getElem?_eq_some_iff.mp hi).1
  have less : Less S { S with σ := S.σ.set i .no } := fun j o1 hj => by
    by_cases e : i = j
    · subst e; rw [List.getElem?_set_self il] at hj; cases hj
    · rw [List.getElem?_set_ne e] at hj; exact ⟨o1, hj⟩
  obtain ⟨a, h1, h2, h3⟩ := rl.own i o hi
  refine ⟨⟨⟨by simpa using rl.len, fun j d hj => ?_, fun j o1 hj => ?_, fun j l b h1 h2 => rl.inj j l b (less.at h1) (less.at h2), rl.st, rl.gl, rl.gn⟩, less, ⟨⟨[], by simp, by simp⟩, fun _ _ h _ _ => h, fun _ h => h⟩⟩, a, h1, h2, h3, fun j hj => ?_⟩
  · by_cases e : i = j
    · subst e; rw [List.getElem?_set_self il] at hj; cases hj
    · rw [List.getElem?_set_ne e] at hj; exact rl.val j d hj
  · by_cases e : i = j
    · subst e; rw [List.getElem?_set_self il] at hj; cases hj
    · rw [List.getElem?_set_ne e] at hj; exact rl.own j o1 hj
  · have e := rl.inj i j a ⟨⟨o, hi⟩, h1⟩ (less.at hj)
    subst e
    obtain ⟨⟨o1, ho1⟩, _⟩ := hj
    rw [List.getElem?_set_self il] at ho1; cases ho1
/-! facts of the arguments, by their places -/
section
variable {H0 : Hp}
theorem RepArs.length : ∀ {as : List Ar} {l : List Nat} {vs : List V}, RepArs K g S σ H0 H as l vs → vs.length = as.length
  | [], _, _, h => by obtain ⟨_, rfl⟩ := h; rfl
  | .val d :: as, _, _, h => by obtain ⟨v, r, rfl, _, h⟩ := h; simp [RepArs.length h]
  | .own o :: as, _, _, h => by obtain ⟨r, i, t, a, rfl, _, _, _, _, _, _, h⟩ := h; simp [RepArs.length h]
theorem RepArs.val : ∀ {as : List Ar} {l : List Nat} {vs : List V} {i : Nat} {d : D}, RepArs K g S σ H0 H as l vs → as[i]? = some (.val d) → ∃ v, vs[i]? = some v ∧ Rep K g H d v
  | [], _, _, i, d, h, e => by simp at e
  | .val d' :: as, _, _, 0, d, h, e => by obtain ⟨v, r, rfl, h1, h⟩ := h; simp at e; subst e; exact ⟨v, rfl, h1⟩
  | .val d' :: as, _, _, i + 1, d, h, e => by obtain ⟨v, r, rfl, h1, h⟩ := h; simpa using RepArs.val h (by simpa using e)
  | .own o :: as, _, _, 0, d, h, e => by simp at e
  | .own o :: as, _, _, i + 1, d, h, e => by obtain ⟨r, i', t, a, rfl, _, _, _, _, _, _, h⟩ := h; simpa using RepArs.val h (by simpa using e)
theorem RepArs.own : ∀ {as : List Ar} {l : List Nat} {vs : List V} {i : Nat} {o : O}, RepArs K g S σ H0 H as l vs → as[i]? = some (.own o) → ∃ a, vs[i]? = some (.ref a) ∧ RepO K g H o a ∧ a ∉ g ∧ (∀ j, ¬ OwnAt S σ j a) ∧ ((∃ s ∈ l, s < σ.length ∧ σ[s]? = some (some (.ref a))) ∨ H0 a = none)
  | [], _, _, i, d, h, e => by simp at e
  | .val d' :: as, _, _, 0, d, h, e => by simp at e
  | .val d' :: as, _, _, i + 1, d, h, e => by obtain ⟨v, r, rfl, h1, h⟩ := h; simpa using RepArs.own h (by simpa using e)
  | .own o :: as, _, _, 0, d, h, e => by
    obtain ⟨r, i', t, a, rfl, rfl, h1, h2, h3, h4, h5, h⟩ := h
    simp at e; subst e
    refine ⟨a, rfl, h2, h3, h4, ?_⟩
    rcases h1 with h1 | ⟨_, h1⟩
    · exact .inl ⟨i', List.mem_cons_self, (List.getElem?_eq_some_iff.mp h1).1, h1⟩
    · exact .inr h1
  | .own o :: as, _, _, i + 1, d, h, e => by
    obtain ⟨r, i', t, a, rfl, rfl, h1, h2, h3, h4, h5, h⟩ := h
    obtain ⟨b, q1, q2, q3, q4, q5⟩ := RepArs.own h (i := i) (by simpa using e)
    refine ⟨b, by simpa using q1, q2, q3, q4, ?_⟩
    rcases q5 with ⟨s, q5, q6⟩ | q5
    · exact .inl ⟨s, List.mem_cons_of_mem _ q5, q6⟩
    · exact .inr q5
end
theorem sim_consM {i : Nat} (h : PE X e (tVar i)) (hs : PA X es (tAr X.K ms)) (hst : starEach (e :: es) X.env = (false, eval e X.env) :: starEach es X.env) :
    PA X (e :: es) (tAr X.K (M.bind (takeOwn i) fun o => M.bind ms fun p => fun s => .ok (.own o :: p.1, i :: p.2) s)) := by
  refine PA.imp (pa_cons h hs hst) fun σ H Q ⟨g, S, rl, ds, S', hm, q⟩ => ?_
  obtain ⟨o, S1, h1, hm⟩ := bind_ok hm
  obtain ⟨p, S2, h2, hm⟩ := bind_ok hm
  cases hm
  unfold takeOwn at h1
  split at h1
  · rename_i o' hi
    cases h1
    obtain ⟨p1, a, ha, ho, hg, hno⟩ := take_ok rl hi
    refine ⟨.ref a, ha, g, _, p1.rel, p, _, h2, fun vs g2 H2 p2 rvs hown => ?_⟩
    obtain ⟨u, hu, _⟩ := ho.mut
    have hk := p2.fr.keep a u hu hg hno
    refine q (.ref a :: vs) g2 H2 (p1.trans p2) ⟨vs, i, p.2, a, rfl, rfl, .inl ha, ho.stay (p2.stay p1.rel) (hk.trans hu.symm), ?_, fun j hj => hno j (p2.less.at hj), fun n o' hn z => ?_, rvs⟩ fun j hj hl => ?_
    · obtain ⟨l, rfl, hl⟩ := p2.fr.ext
      intro hm
      rcases List.mem_append.mp hm with z | z
      · exact hg z
      · rw [hl a z] at hu; cases hu
    · obtain ⟨c, w1, _, _, _, w5⟩ := rvs.own hn
      rw [z] at w1; cases w1
      rcases w5 with ⟨s, ws, wl, w6⟩ | w5
      · exact hno s ⟨hown s ws wl, w6⟩
      · rw [w5] at hu; cases hu
    · rcases List.mem_cons.mp hj with rfl | hj
      · exact ⟨_, hi⟩
      · obtain ⟨o1, ho1⟩ := hown j hj hl
        exact p1.less j o1 ho1
  · cases h1
/-- a new object, handed over -/
theorem sim_consW (h : PE X e (tE X.K m)) (hs : PA X es (tAr X.K ms)) (hst : starEach (e :: es) X.env = (false, eval e X.env) :: starEach es X.env) :
    PA X (e :: es) (tAr X.K (M.bind (M.bind m newO) fun o => M.bind ms fun p => fun s => .ok (.own o :: p.1, s.σ.length :: p.2) s)) := by
  refine PA.imp (pa_cons h hs hst) fun σ H Q ⟨g, S, rl, ds, S', hm, q⟩ => ?_
  obtain ⟨o, S1, h1, hm⟩ := bind_ok hm
  obtain ⟨p, S2, h2, hm⟩ := bind_ok hm
  cases hm
  obtain ⟨r, S0, h0, h1⟩ := bind_ok h1
  cases r with
  | val d => cases h1
  | slot i => cases h1
  | new o' =>
    cases h1
    refine ⟨g, S, rl, _, S1, h0, fun v g1 H1 p1 rv => ?_⟩
    obtain ⟨a, rfl, ho, h00, hg, hno⟩ := rv
    refine ⟨g1, S1, p1.rel, p, _, h2, fun vs g2 H2 p2 rvs hown => ?_⟩
    obtain ⟨u, hu, _⟩ := ho.mut
    have hk := p2.fr.keep a u hu hg hno
    refine q (.ref a :: vs) g2 H2 (p1.trans p2) ⟨vs, _, p.2, a, rfl, rfl, .inr ⟨Nat.le_of_eq p2.rel.len.symm, h00⟩, ho.stay (p2.stay p1.rel) (hk.trans hu.symm), ?_, fun j hj => hno j (p2.less.at hj), fun n o' hn z => ?_, rvs.from0 p1.fr.there⟩ fun j hj hl => ?_
    · obtain ⟨l, rfl, hl⟩ := p2.fr.ext
      intro hm
      rcases List.mem_append.mp hm with z | z
      · exact hg z
      · rw [hl a z] at hu; cases hu
    · obtain ⟨c, w1, _, _, _, w5⟩ := rvs.own hn
      rw [z] at w1; cases w1
      rcases w5 with ⟨s, ws, wl, w6⟩ | w5
      · exact hno s ⟨hown s ws wl, w6⟩
      · rw [w5] at hu; cases hu
    · rcases List.mem_cons.mp hj with rfl | hj
      · exact absurd hl (by rw [p2.rel.len]; exact Nat.lt_irrefl _)
      · obtain ⟨o1, ho1⟩ := hown j hj hl
        exact p1.less j o1 ho1
section
variable {H0 : Hp}

theorem RepArs.inj : ∀ {as : List Ar} {l : List Nat} {vs : List V} {i j : Nat} {a : Addr} {o o' : O}, RepArs K g S σ H0 H as l vs → as[i]? = some (.own o) → as[j]? = some (.own o') → vs[i]? = some (.ref a) → vs[j]? = some (.ref a) → i = j
  | [], _, _, i, j, a, o, o', h, e, e', f, f' => by simp at e
  | .val d :: as, _, _, i, j, a, o, o', h, e, e', f, f' => by
    obtain ⟨v, r, rfl, h1, h⟩ := h
    cases i with
    | zero => simp at e
    | succ i =>
      cases j with
      | zero => simp at e'
      | succ j => exact congrArg (· + 1) (RepArs.inj (i := i) (j := j) h (by simpa using e) (by simpa using e') (by simpa using f) (by simpa using f'))
  | .own o1 :: as, _, _, i, j, a, o, o', h, e, e', f, f' => by
    obtain ⟨r, i', t, b, rfl, rfl, h1, h2, h3, h4, h5, h⟩ := h
    cases i with
    | zero =>
      simp at f; subst f
      cases j with
      | zero => rfl
      | succ j => exact (h5 j _ (by simpa using e') (by simpa using f')).elim
    | succ i =>
      cases j with
      | zero => simp at f'; subst f'; exact (h5 i _ (by simpa using e) (by simpa using f)).elim
      | succ j => exact congrArg (· + 1) (RepArs.inj (i := i) (j := j) h (by simpa using e) (by simpa using e') (by simpa using f) (by simpa using f'))
theorem slOf_val {as : List Ar} {i : Nat} {d : D} (h : (as.map slOf)[i]? = some (.val d)) : as[i]? = some (.val d) := by
  rw [List.getElem?_map] at h
  obtain ⟨x, hx, e⟩ := Option.map_eq_some_iff.mp h
  cases x <;> simp [slOf] at e
  subst e; exact hx
theorem slOf_own {as : List Ar} {i : Nat} {o : O} (h : (as.map slOf)[i]? = some (.own o)) : as[i]? = some (.own o) := by
  rw [List.getElem?_map] at h
  obtain ⟨x, hx, e⟩ := Option.map_eq_some_iff.mp h
  cases x <;> simp [slOf] at e
  subst e; exact hx
theorem map_some_get {vs : List V} {i : Nat} {v : V} (h : (vs.map some)[i]? = some (some v)) : vs[i]? = some v := by
  rw [List.getElem?_map] at h
  obtain ⟨x, hx, e⟩ := Option.map_eq_some_iff.mp h
  cases e; exact hx
theorem get_map_some {vs : List V} {i : Nat} {v : V} (h : vs[i]? = some v) : (vs.map some)[i]? = some (some v) := by rw [List.getElem?_map, h]; rfl
theorem RepArs.rel {as : List Ar} {l : List Nat} {vs : List V} (rl : Rel K g S σ H) (h : RepArs K g S σ H0 H as l vs) : Rel K g ⟨as.map slOf, S.st⟩ (vs.map some) H := by
  refine ⟨by simp [h.length], fun i d e => ?_, fun i o e => ?_, fun i j a h1 h2 => ?_, rl.st, rl.gl, rl.gn⟩
  · obtain ⟨v, q1, q2⟩ := h.val (slOf_val e)
    exact ⟨v, get_map_some q1, q2⟩
  · obtain ⟨a, q1, q2, q3, _⟩ := h.own (slOf_own e)
    exact ⟨a, get_map_some q1, q2, q3⟩
  · obtain ⟨⟨o, ho⟩, e1⟩ := h1
    obtain ⟨⟨o', ho'⟩, e2⟩ := h2
    exact h.inj (slOf_own ho) (slOf_own ho') (map_some_get e1) (map_some_get e2)
/-- the handed over objects are put back -/
theorem back_ok {g0 : Gh} {S2 : Sta} {H2 : Hp} : ∀ {as : List Ar} {l : List Nat} {vs : List V} {outs : List O} {S0 S' : Sta}, RepArs K g0 S2 σ H0 H2 as l vs → RepOuts K g' H' as vs outs → Rel K g' S0 σ H' →
    (∀ a u, H2 a = some u → a ∉ g0 → a ∉ g') → (∀ (i : Nat) (a : Addr) (o : O), as[i]? = some (Ar.own o) → vs[i]? = some (V.ref a) → ∀ j, ¬ OwnAt S0 σ j a) → backO l outs S0 = some S' →
    Rel K g' S' σ H' ∧ (∀ (j : Nat) (o : O), S'.σ[j]? = some (.own o) → (∃ o', S0.σ[j]? = some (.own o')) ∨ j ∈ l)
  | [], l, vs, outs, S0, S', h, ho, rl, hg, hn, e => by
    obtain ⟨rfl, rfl⟩ := h
    have : outs = [] := ho
    subst this
    simp [backO] at e
    subst e
    exact ⟨rl, fun j o h => .inl ⟨o, h⟩⟩
  | .val d :: as, l, vs, outs, S0, S', h, ho, rl, hg, hn, e => by
    obtain ⟨v, r, rfl, _, h⟩ := h
    obtain ⟨v', r', e1, ho⟩ := ho
    cases e1
    exact back_ok h ho rl hg (fun i a o q1 q2 => hn (i + 1) a o (by simpa using q1) (by simpa using q2)) e
  | .own o1 :: as, l, vs, outs, S0, S', h, ho, rl, hg, hn, e => by
    obtain ⟨r, i, t, a, rfl, rfl, h1, h2, h3, h4, h5, h⟩ := h
    obtain ⟨v', r', o2, os, a', e1, rfl, rfl, hro, ho⟩ := ho
    cases e1
    have hno := hn 0 a o1 rfl rfl
    rcases h1 with h1 | ⟨h1, h10⟩
    rotate_left
    · have es : S0.σ.set i (.own o2) = S0.σ := List.set_eq_of_length_le (by rw [rl.len]; exact h1)
      have e' : backO t os { S0 with σ := S0.σ.set i (.own o2) } = some S' := e
      rw [es] at e'
      obtain ⟨w1, w2⟩ := back_ok h ho rl hg (fun n b o q1 q2 j hj => hn (n + 1) b o (by simpa using q1) (by simpa using q2) j hj) e'
      exact ⟨w1, fun j o hj => (w2 j o hj).imp id (List.mem_cons_of_mem _)⟩
    have il : i < S0.σ.length := by rw [rl.len]; exact (List.getElem?_eq_some_iff.mp h1).1
    obtain ⟨u, hu, _⟩ := h2.mut
    have ga : a ∉ g' := hg a u hu h3
    have own1 : ∀ j b, OwnAt { S0 with σ := S0.σ.set i (.own o2) } σ j b → (j = i ∧ b = a) ∨ OwnAt S0 σ j b := fun j b hj => by
      by_cases e : i = j
      · subst e
        obtain ⟨_, hs⟩ := hj
        rw [h1] at hs; cases hs
        exact .inl ⟨rfl, rfl⟩
      · obtain ⟨⟨o', ho'⟩, hs⟩ := hj
        rw [List.getElem?_set_ne e] at ho'
        exact .inr ⟨⟨o', ho'⟩, hs⟩
    have rl1 : Rel K g' { S0 with σ := S0.σ.set i (.own o2) } σ H' := by
      refine ⟨by simpa using rl.len, fun j d hj => ?_, fun j o' hj => ?_, fun j j' b q1 q2 => ?_, rl.st, rl.gl, rl.gn⟩
      · by_cases e : i = j
        · subst e; rw [List.getElem?_set_self il] at hj; cases hj
        · rw [List.getElem?_set_ne e] at hj; exact rl.val j d hj
      · by_cases e : i = j
        · subst e; rw [List.getElem?_set_self il] at hj; cases hj
          exact ⟨a, h1, hro, ga⟩
        · rw [List.getElem?_set_ne e] at hj; exact rl.own j o' hj
      · rcases own1 j b q1 with ⟨rfl, rfl⟩ | q1'
        · rcases own1 j' b q2 with ⟨rfl, _⟩ | q2'
          · rfl
          · exact (hno j' q2').elim
        · rcases own1 j' b q2 with ⟨rfl, rfl⟩ | q2'
          · exact (hno j q1').elim
          · exact rl.inj j j' b q1' q2'
    have e' : backO t os { S0 with σ := S0.σ.set i (.own o2) } = some S' := e
    obtain ⟨w1, w2⟩ := back_ok h ho rl1 hg (fun n b o q1 q2 j hj => by
      rcases own1 j b hj with ⟨rfl, rfl⟩ | hj'
      · exact h5 n o q1 q2
      · exact hn (n + 1) b o (by simpa using q1) (by simpa using q2) j hj') e'
    refine ⟨w1, fun j o hj => ?_⟩
    rcases w2 j o hj with ⟨o', ho'⟩ | hjt
    · by_cases e : i = j
      · exact .inr (e ▸ List.mem_cons_self)
      · rw [List.getElem?_set_ne e] at ho'
        exact .inl ⟨o', ho'⟩
    · exact .inr (List.mem_cons_of_mem _ hjt)
end
/-- f(..) -/
theorem tE_call {cal : Cal} {f : Str} (h : tE K (M.bind ms fun p => doCall cal f p.1 p.2) σ H Q) : tCall (spOf K cal f) [] E0 (tAr K ms) σ H Q := by
  obtain ⟨g, S, rl, r', S', hm, q⟩ := h
  obtain ⟨p, S2, h1, hm⟩ := bind_ok hm
  refine ⟨g, S, rl, p, S2, h1, fun vs g2 H2 p2 rvs hown => ?_⟩
  unfold doCall at hm
  split at hm
  · rename_i r outs st' hcal
    split at hm
    · rename_i S3 hback
      cases hm
      show spOf K cal f (vs ++ []) H2 Q E0
      rw [List.append_nil]
      refine ⟨g2, p.1, S2.st, rvs.rel p2.rel, r, outs, st', hcal, fun v g' H' hst hout fr hrt => ?_⟩
      have stay : Stay g2 g' H2 H' := fr.stay (rvs.rel p2.rel)
      have hg' : ∀ a u, H2 a = some u → a ∉ g2 → a ∉ g' := fun a u hu hn hm => by
        obtain ⟨l, rfl, hl⟩ := fr.ext
        rcases List.mem_append.mp hm with z | z
        · exact hn z
        · rw [hl a z] at hu; cases hu
      -- the slots that stay are untouched
      have rl0 : Rel K g' { S2 with st := st' } σ H' := by
        refine ⟨p2.rel.len, fun j d hj => ?_, fun j o hj => ?_, p2.rel.inj, hst.st, hst.gl, hst.gn⟩
        · obtain ⟨w, q1, q2⟩ := p2.rel.val j d hj
          exact ⟨w, q1, q2.stay stay⟩
        · obtain ⟨b, q1, q2, q3⟩ := p2.rel.own j o hj
          obtain ⟨u, hu, _⟩ := q2.mut
          have hk := fr.keep b u hu q3 fun i hi => by
            obtain ⟨⟨o', ho'⟩, e⟩ := hi
            obtain ⟨c, w1, _, _, w4, _⟩ := rvs.own (slOf_own ho')
            rw [map_some_get e] at w1; cases w1
            exact w4 j ⟨⟨o, hj⟩, q1⟩
          exact ⟨b, q1, q2.stay stay (hk.trans hu.symm), hg' b u hu q3⟩
      obtain ⟨rl', hless⟩ := back_ok rvs hout rl0 hg' (fun i a o q1 q2 j hj => by
        obtain ⟨c, w1, _, _, w4, _⟩ := rvs.own q1
        rw [q2] at w1; cases w1
        exact w4 j hj) hback
      have less : Less S S' := fun j o hj => by
        rcases hless j o hj with ⟨o', ho'⟩ | hjl
        · exact p2.less j o' ho'
        · exact hown j hjl (by rw [← rl'.len]; exact (List.getElem?_eq_some_iff.mp hj).1)
      have frA : Fr S σ g g' H H' := by
        obtain ⟨l1, e1, n1⟩ := p2.fr.ext
        obtain ⟨l2, e2, n2⟩ := fr.ext
        refine ⟨⟨l1 ++ l2, by rw [e2, e1, List.append_assoc], fun x hx => ?_⟩, fun b o hb hbg hbo => ?_, fun b hb => p2.fr.there b (fr.there b hb)⟩
        · rcases List.mem_append.mp hx with z | z
          · exact n1 x z
          · exact p2.fr.there x (n2 x z)
        · refine fr.keep b o (p2.fr.keep b o hb hbg hbo) (fun hm => ?_) fun i hi => ?_
          · rw [e1] at hm
            rcases List.mem_append.mp hm with z | z
            · exact hbg z
            · rw [n1 b z] at hb; cases hb
          · obtain ⟨⟨o', ho'⟩, e⟩ := hi
            obtain ⟨c, w1, _, _, _, w5⟩ := rvs.own (slOf_own ho')
            rw [map_some_get e] at w1; cases w1
            rcases w5 with ⟨s, ws, wl, w6⟩ | w5
            · exact hbo s ⟨hown s ws wl, w6⟩
            · rw [w5] at hb; cases hb
      refine q v g' H' ⟨rl', less, frA⟩ ?_
      cases r with
      | val d => exact hrt
      | new o =>
        obtain ⟨a, rfl, ho, h0, hag⟩ := hrt
        refine ⟨a, rfl, ho, p2.fr.there a h0, hag, fun i hi => ?_⟩
        obtain ⟨⟨o', ho'⟩, e⟩ := less.at hi
        obtain ⟨b, w1, w2, _⟩ := rl.own i o' ho'
        rw [e] at w1; cases w1
        obtain ⟨u, hu, _⟩ := w2.mut
        rw [p2.fr.there a h0] at hu; cases hu
    · cases hm
  · cases hm
variable {cal : Cal} {k : Kx} {pos p : Pos} {f : Str}
theorem sim_call (cx : Cxt cal k X) (hg : glB k f = true) (ha : PA X (e :: es) (tAr X.K ms)) (he : starEach (e :: es) X.env = (false, eval e X.env) :: starEach es X.env) (hpl : (backTo pos (starEach es X.env)).any (·.1) = false) :
    PE X (.Call (.Name f p) (e :: es) [] pos) (tE X.K (M.bind ms fun p => doCall cal f p.1 p.2)) := by
  obtain ⟨h1, h2, h3⟩ := cx.gl hg
  rcases cx.fns f with hb | ⟨lvl, a, fd, ps, hm, hk, hbi, hr, F⟩
  · refine PE.imp PE.never fun σ H Q h => ?_
    obtain ⟨g, S, rl, r', S', hm, q⟩ := h
    obtain ⟨p, S2, h1, hm⟩ := bind_ok hm
    unfold doCall at hm
    rw [hb] at hm
    cases hm
  · exact PE.imp (pe_call F hr h1 hm hk hbi .nil pass0 ha h2 he hpl) fun σ H Q h => tE_call h
end
end NH

set_option Elab.async false
set_option linter.all false
set_option maxRecDepth 100000
set_option maxHeartbeats 1000000
set_option autoImplicit false
namespace NH
open PySem L2

/-! ### enumerate(tuple) -/
open PySem.Sem (wp) in
open AutoSeq1 (wpAny_loadPart') in
theorem meets_enumerate_newB1 {v : Value} {o : Obj} {H : Heap → Prop} (B : Begins v o H) :
    Meets (Builtin.«enumerate.__new__» ⟨[.type "enumerate", v], []⟩) (fun _ R s => H s.heap ∧
      R (.ok (.ret (.ref (s.heap.push o).objs.size))) { s with heap := (s.heap.push o).push { cls := .type "enumerate", data := .fields #[.none, .bool false, .ref s.heap.objs.size, rawInt 0, .none, .none] } }) :=
  .of_wp fun prog w A R s h => by
    obtain ⟨hp, g, d, tk, os⟩ := s; obtain ⟨h1, h⟩ := h
    have hsub := sub_enumerate
    have q1 : ∀ {A' : Around} {E : Value → Shared → Prop} {Q : Value → Shared → Prop}, Q (.ref hp.objs.size) ⟨hp.push o, g, d, tk, os⟩ → wpAny (model prog w) A' (pyIter v) Q E ⟨hp, g, d, tk, os⟩ :=
      fun q => B.iter prog w _ _ ⟨hp, g, d, tk, os⟩ _ h1 q
    wp_walk using q1
    refine wpAny_stack_any fun st => wpAny_pure ?_
    split
    · rename_i c _ _ _ _ _
      cases (c == Value.type "enumerate")
      · wp_walk using q1
        exact ⟨_, rfl, h⟩
      · wp_walk using q1
        exact ⟨_, rfl, h⟩
    · wp_walk using q1
      exact ⟨_, rfl, h⟩
section
variable {prog : Program} {w : World} {A : Around} {E : Value → Shared → Prop} {s : Shared}
theorem enum_begins1 {v : Value} {o : Obj} {H : Heap → Prop} {Q : Value → Shared → Prop} (B : Begins v o H) (h1 : H s.heap)
    (h : ∀ h', IsEnum h' (s.heap.objs.size + 1) s.heap.objs.size 0 .none → h'.get? s.heap.objs.size = some o → h'.objs.size = s.heap.objs.size + 2 →
      (∀ b o, s.heap.get? b = some o → h'.get? b = some o) → Q (.ref (s.heap.objs.size + 1)) { s with heap := h' }) :
    wpAny (model prog w) A (call (.type "enumerate") [v]) Q E s := by
  refine callType_new F.called_enumerate (by decide) (F.typeCall_enumerate_1 _) (F.newCall_enumerate_1 _) (fun obj => F.args_object_init_2 obj _) F.entry_enumerate_new
    (meets_enumerate_newB1 B) ⟨h1, ?_⟩
  have hz : (s.heap.push o).objs.size = s.heap.objs.size + 1 := Heap.size_push ..
  show _ ∧ _
  rw [hz]
  have he : IsEnum ((s.heap.push o).push { cls := .type "enumerate", data := .fields #[.none, .bool false, .ref s.heap.objs.size, rawInt 0, .none, .none] }) (s.heap.objs.size + 1) s.heap.objs.size 0 .none := by
    have := Heap.get?_push_size (s.heap.push o) (o := { cls := .type "enumerate", data := .fields #[.none, .bool false, .ref s.heap.objs.size, rawInt 0, .none, .none] }) rfl
    rw [hz] at this; exact this
  refine ⟨⟨_, he, rfl⟩, h _ he (Heap.get?_push_of_some _ (Heap.get?_push_size _ B.free)) (by rw [Heap.size_push, hz]) fun b o x => Heap.get?_push_of_some _ (Heap.get?_push_of_some _ x)⟩
end
/-- the tuple at a, each item in a new pair -/
def IteT (K : PySem.W.Frag) (a : Addr) : It :=
  ⟨fun i H => ∃ (xs : List V) (x : V), SqT K H a xs ∧ xs[i]? = some x, fun i H v H' => ∃ T x, v = .ref T ∧ H T = none ∧ H' = upd H T (.tup [.int (i : Nat), x]) ∧ ∀ xs, SqT K H a xs → xs[i]? = some x, fun i H => ∃ xs : List V, SqT K H a xs ∧ xs.length ≤ i⟩
open PyProof.Rows in
theorem turn_enumT {P : Program} {w : World} {K : PySem.W.Frag} {elts : List Expr} {kk : Nat} {tpos : Pos} {a e it : Addr} (hne : e ≠ it) (hea : e ≠ a) (hai : a ≠ it) :
    Turn P w K (.Tuple elts kk tpos) (IteT K a) [e, it] e (fun i h => (∃ old, IsEnum h e it ((i : Nat) : Int) old) ∧ h.IsTupleIter it a i) where
  mem := by simp
  obj := fun i h st b hb => by
    obtain ⟨⟨old, he⟩, ⟨o, ho, hc, hd⟩⟩ := st
    have e' : b = e ∨ b = it := by simpa using hb
    rcases e' with z | z
    · rw [z]; exact ⟨_, he, fun v q => nomatch q⟩
    · rw [z]; exact ⟨o, ho, fun v q => by rw [hd] at q; cases q⟩
  keep := fun i h h' st k => let ⟨⟨old, he⟩, hi⟩ := st; ⟨⟨old, k e (by simp) _ he⟩, hi.at fun o q => k it (by simp) o q⟩
  item := by
    intro X hP hw hK hc i pins s σ H E I hf st hg
    subst hP hw hK
    obtain ⟨⟨old, he⟩, hit⟩ := st
    obtain ⟨xs, x, hq, hx⟩ := hg
    obtain ⟨its, rv, p, hz⟩ := I.tuple hq
    obtain ⟨u, hu, ru⟩ := rv.get hx
    have hel : e < s.heap.objs.size := Heap.lt_size he
    have hil : it < s.heap.objs.size := by obtain ⟨_, q, _⟩ := hit; exact Heap.lt_size q
    have hlt : i < its.toArray.size := by
      have := (List.getElem?_eq_some_iff.mp hu).1
      simpa using this
    have hh : X.A.in1.handled = none := I.ok.hd hc
    refine wpAny_pyNext_enum_itemD (Draws.tuple (prog := X.prog) (w := X.w) hh it a hai its.toArray) he ⟨hit, p⟩ hlt hne (by simp [hne, hea]) fun u' h' tk hP ho hs' hT hsz hk => ?_
    have eu : u' = u := by
      have : its[i]? = some u' := by simpa using hP
      rw [hu] at this; cases this; rfl
    subst eu
    refine ⟨_, rfl, wpAny_letOwnedTupleGo_enum (s := { s with heap := h', toks := tk + 1 }) ho fun h'' he' sb => ?_⟩
    have hT2 : h''.get? s.heap.objs.size = some { cls := .type "tuple", data := .seq #[.int i tk, u'] } := (sb.2 _ (Nat.ne_of_gt hel)).trans hT
    have new : ObjOk X.prog X.w (upd H s.heap.objs.size (.tup [.int (i : Nat), x])) h'' s.heap.objs.size (.tup [.int (i : Nat), x]) :=
      ⟨by show 2 ≤ sizeLine; decide, [.int i tk, u'], .cons ⟨_, rfl⟩ (.cons ru .nil), ⟨_, hT2, rfl, _, rfl⟩⟩
    have I1 : L2.Inv X pins σ (upd H s.heap.objs.size (.tup [.int (i : Nat), x])) { s with heap := h'', toks := tk + 1 } :=
      I.turnedNew (ch := [e, it]) (fun b ob hb q => (sb.2 b (fun z => hb (by simp [z]))).trans (hk b ob (fun z => hb (by simp [z])) (fun z => hb (by simp [z])) q)) hf (Nat.le_refl _) new
    refine ⟨.ref s.heap.objs.size, _, I1, rfl, ⟨_, x, rfl, I.hok.fresh (Nat.le_refl _), rfl, fun ys hy => by rw [I.tuple_inj hy hq]; exact hx⟩, ⟨⟨u', ?_⟩, hs'.1.at fun o q => (sb.2 it (Ne.symm hne)).trans q⟩, fun b hb => ?_⟩
    · have e1 : ((i + 1 : Nat) : Int) = (i : Int) + 1 := by omega
      rw [e1]; exact he'
    · have hb' : b < s.heap.objs.size := by
        have e' : b = e ∨ b = it := by simpa using hb
        rcases e' with z | z
        · rw [z]; exact hel
        · rw [z]; exact hil
      rw [upd_ne (Nat.ne_of_lt hb')]
      exact (hf b hb).1
  done := by
    intro X hP hw hK hc i pins s σ H E I hf st hg
    subst hP hw hK
    obtain ⟨⟨old, he⟩, hit⟩ := st
    obtain ⟨xs, hq, hx⟩ := hg
    obtain ⟨its, rv, p, hz⟩ := I.tuple hq
    obtain ⟨f0, f1, f2, f3, f4, f5⟩ := hf it (by simp)
    have hl := rv.length
    have hT : s.TypeIs (.ref e) "enumerate" := ⟨_, he, rfl⟩
    unfold pyNext
    refine wpAny_bind (wpAny_attempt (wpAny_callSpecial?_slot (name := Str.ofString "__next__") hT F.slot_enumerate_next
      (wpAny_call_entry F.slot_enumerate_next hT F.entry_enumerate_next ?_ (F.args_enumerate_next_1 _))))
    show wpAny _ _ (field (.ref e) 2 >>= _) _ _ _
    refine wpAny_bind (wpAny_field he rfl (x := .ref it) rfl ?_)
    refine wpAny_bind (PySem.wpAny_nextOf_tuple_end (I.ok.hd hc) hit p (by simp; omega) fun h' x he' hx' => ?_)
    obtain ⟨o, ho, hc⟩ := hx'
    refine wpAny_bind (wpAny_isInstance (T := "StopIteration") (b := true) ⟨o, ho, hc⟩ isSubtype_stop ?_)
    exact wpAny_pure ⟨rfl, I.turned (t' := s.toks) (fun b o hb q => he' b o hb q) f0 f1 f3 f4 f5⟩
  self := fun A i s Q E st h => let ⟨⟨_, he⟩, _⟩ := st; wpAny_pyIter_enum he h
def iEnumT (K : PySem.W.Frag) (ta : TA) : TI := fun σ H R => ta σ H fun vs H1 => ∃ a xs, vs = [.ref a] ∧ SqT K H1 a xs ∧ R (IteT K a) H1
theorem pi_enumT {X : Cx} {e : Expr} {ta : TA} {p pos tpos : Pos} {elts : List Expr} {kk : Nat} (hg : Gl X "enumerate") (hm : X.mg "enumerate" = none) (ha : PA X [e] ta) (hs : starEach [e] X.env = [(false, eval e X.env)]) :
    PI X (.Tuple elts kk tpos) (.Call (.Name "enumerate" p) [e] [] pos) (iEnumT X.K ta) := by
  refine ⟨fun pins s σ H R I h => ?_⟩
  refine PyProof.Rows.Call_ (ld_blt I hg hm PyProof.Rows.boot_enumerate (PyProof.Rows.callWith_type1 (thn (ha.run pos pins s σ H _ I h) fun us s1 ⟨vs, H1, I1, r1, q1⟩ => ?_) hs rfl))
  obtain ⟨a, xs, ex, hq, q⟩ := q1
  subst ex
  cases r1 with
  | cons r rr =>
    cases rr
    cases r
    obtain ⟨its, rv, p', hz⟩ := I1.tuple hq
    have hal : a < s1.heap.objs.size := by obtain ⟨o, ho, _⟩ := p'; exact Heap.lt_size ho
    refine enum_begins1 (begins_tuple a its.toArray) p' fun h' he hit hsz hk => wpAny_pyIter_enum he ?_
    have I2 : L2.Inv X pins σ H1 { s1 with heap := h' } := I1.kept (t' := s1.toks) hk
    refine ⟨s1.heap.objs.size + 1, [s1.heap.objs.size + 1, s1.heap.objs.size], _, _, H1, rfl, I2, turn_enumT (a := a) (Nat.succ_ne_self _) (Nat.ne_of_gt (Nat.lt_succ_of_lt hal)) (Nat.ne_of_lt hal), ⟨⟨.none, he⟩, ⟨_, hit, rfl, rfl⟩⟩, fun b hb => ?_, q⟩
    have e' : b = s1.heap.objs.size + 1 ∨ b = s1.heap.objs.size := by simpa using hb
    have hle : s1.heap.objs.size ≤ b := by
      rcases e' with z | z
      · rw [z]; exact Nat.le_add_right _ _
      · rw [z]; exact Nat.le_refl _
    exact I1.fpOk hle (I1.hok.fresh hle)
end NH

set_option Elab.async false
set_option linter.all false
set_option maxRecDepth 100000
set_option maxHeartbeats 1000000
set_option autoImplicit false
namespace NH
open PySem L2

/-- what a walk gives at a turn -/
def RepI (K : PySem.W.Frag) (g : Gh) (H : Hp) : Itm → V → Hp → Prop
  | .v d, x, H' => H' = H ∧ Rep K g H d x
  | .p a b, x, H' => ∃ T y z, x = .ref T ∧ H T = none ∧ H' = upd H T (.tup [y, z]) ∧ Rep K g H a y ∧ Rep K g H b z
structure ItD (K : PySem.W.Frag) (J : It) (its : List Itm) (g1 : Gh) (H1 : Hp) : Prop where
  goes : ∀ (i : Nat) g H, Stay g1 g H1 H → i < its.length → J.go i H
  stops : ∀ g H, Stay g1 g H1 H → J.stop its.length H
  yields : ∀ (i : Nat) g H x H' d, Stay g1 g H1 H → its[i]? = some d → J.yld i H x H' → RepI K g H d x H'
def tI (K : PySem.W.Frag) (m : M (List Itm)) : TI := fun σ H R => ∃ g S, Rel K g S σ H ∧ ∃ ds S', m S = .ok ds S' ∧ ∀ J g' H', Po K g S σ H g' S' H' → ItD K J ds g' H' → R J H'
section
variable {K : PySem.W.Frag} {g g' g1 : Gh} {S S' : Sta} {σ : St} {H H' H1 : Hp} {X : Cx} {tg e : Expr}
theorem ItD.walk {J : It} {its : List Itm} (h : ItD K J its g1 H1) : Walk J its.length (fun H => ∃ g, Stay g1 g H1 H) (fun i H x H' => ∀ g d, Stay g1 g H1 H → its[i]? = some d → RepI K g H d x H') :=
  ⟨fun i H hi ⟨g, s⟩ => h.goes i g H s hi, fun H ⟨g, s⟩ => h.stops g H s, fun i H x H' hi _ y g d s hd => h.yields i g H x H' d s hd y⟩
theorem FzL.stay {a : Addr} {vs : List V} (h : FzL K H a vs) (s : Stay g g' H H') : FzL K H' a vs := by
  rcases h with ⟨o, h⟩ | h
  · exact .inl ⟨o, s.frz _ _ _ h⟩
  · exact .inr h
theorem ExT.stay {a : Addr} {vs : List V} (h : ExT H a vs) (s : Stay g g' H H') : ExT H' a vs := let ⟨o, h, ho⟩ := h; ⟨o, s.frz _ _ _ h, ho⟩
theorem itd_list {a : Addr} {ds : List D} {vs : List V} (h : FzL K H1 a vs) (r : RepAll K g1 H1 ds vs) : ItD K (Itl K a) (ds.map Itm.v) g1 H1 := by
  have hl := r.length
  refine ⟨fun i g H s hi => ?_, fun g H s => ?_, fun i g H x H' d s hd y => ?_⟩
  · exact walk_list.goes i H (by rw [hl]; simpa using hi) (h.stay s).sq
  · have := (walk_list (K := K) (a := a) (xs := vs)).stops H (h.stay s).sq
    simpa [hl] using this
  · have hq := y.2 vs (h.stay s).sq
    rw [List.getElem?_map] at hd
    obtain ⟨d', hd', rfl⟩ := Option.map_eq_some_iff.mp hd
    obtain ⟨v, hv, rv⟩ := r.get hd'
    rw [hv] at hq; cases hq
    exact ⟨y.1, rv.stay s⟩
theorem itd_tup {a : Addr} {ds : List D} {vs : List V} (h : ExT H1 a vs) (r : RepAll K g1 H1 ds vs) : ItD K (Itt K a) (ds.map Itm.v) g1 H1 := by
  have hl := r.length
  refine ⟨fun i g H s hi => ?_, fun g H s => ?_, fun i g H x H' d s hd y => ?_⟩
  · exact walk_tup.goes i H (by rw [hl]; simpa using hi) (h.stay s).sq
  · have := (walk_tup (K := K) (a := a) (xs := vs)).stops H (h.stay s).sq
    simpa [hl] using this
  · have hq := y.2 vs (h.stay s).sq
    rw [List.getElem?_map] at hd
    obtain ⟨d', hd', rfl⟩ := Option.map_eq_some_iff.mp hd
    obtain ⟨v, hv, rv⟩ := r.get hd'
    rw [hv] at hq; cases hq
    exact ⟨y.1, rv.stay s⟩
theorem itd_range (lo hi : Int) : ItD K (Itr lo (hi - lo).toNat) ((rangeL lo hi).map Itm.v) g1 H1 := by
  refine ⟨fun i g H s hi => ?_, fun g H s => ?_, fun i g H x H' d s hd y => ?_⟩
  · show i < _
    rename_i hi'
    have : i < ((rangeL lo hi').map Itm.v).length := hi
    simp [rangeL] at this
    omega
  · show (hi - lo).toNat ≤ _
    simp [rangeL]
  · rw [List.getElem?_map] at hd
    obtain ⟨d', hd', rfl⟩ := Option.map_eq_some_iff.mp hd
    unfold rangeL at hd'
    rw [List.getElem?_map] at hd'
    obtain ⟨n, hn, rfl⟩ := Option.map_eq_some_iff.mp hd'
    obtain ⟨h1, h2⟩ := List.getElem?_eq_some_iff.mp hn
    have : n = i := by simpa using h2.symm
    subst this
    exact ⟨y.1, y.2⟩
theorem itd_str (x : Str) : ItD K (Its x) (x.cps.toList.map fun c => Itm.v (.str ⟨#[c]⟩)) g1 H1 := by
  refine ⟨fun i g H s hi => ?_, fun g H s => ?_, fun i g H x' H' d s hd y => ?_⟩
  · show i < x.cps.size
    simpa using hi
  · show x.cps.size ≤ _
    simp
  · rw [List.getElem?_map] at hd
    obtain ⟨c, hc, rfl⟩ := Option.map_eq_some_iff.mp hd
    obtain ⟨y1, c', hc', rfl⟩ := y
    have : x.cps[i]? = some c := by simpa using hc
    rw [hc'] at this; cases this
    exact ⟨y1, rfl⟩
theorem enumFrom_get : ∀ (ds : List D) (n i : Nat), (enumFrom n ds)[i]? = (ds[i]?).map fun d => Itm.p (.int ((n + i : Nat) : Int)) d
  | [], n, i => by simp [enumFrom]
  | d :: ds, n, 0 => by simp [enumFrom]
  | d :: ds, n, i + 1 => by
    simp only [enumFrom, List.getElem?_cons_succ]
    rw [enumFrom_get ds (n + 1) i, show n + 1 + i = n + (i + 1) by omega]
theorem enumFrom_length : ∀ (ds : List D) (n : Nat), (enumFrom n ds).length = ds.length
  | [], n => rfl
  | d :: ds, n => by simp [enumFrom, enumFrom_length ds (n + 1)]
theorem itd_enumL {a : Addr} {ds : List D} {vs : List V} (h : FzL K H1 a vs) (r : RepAll K g1 H1 ds vs) : ItD K (Ite K a) (enumFrom 0 ds) g1 H1 := by
  have hl := r.length
  refine ⟨fun i g H s hi => ?_, fun g H s => ?_, fun i g H x H' d s hd y => ?_⟩
  · exact walk_enum.goes i H (by rw [hl]; simpa [enumFrom_length] using hi) (h.stay s).sq
  · have := (walk_enum (K := K) (a := a) (xs := vs)).stops H (h.stay s).sq
    rw [enumFrom_length, ← hl]; exact this
  · obtain ⟨T, w, h1, h2, h3, h4⟩ := y
    have hq := h4 vs (h.stay s).sq
    rw [enumFrom_get] at hd
    obtain ⟨d', hd', rfl⟩ := Option.map_eq_some_iff.mp hd
    obtain ⟨v, hv, rv⟩ := r.get hd'
    rw [hv] at hq; cases hq
    exact ⟨T, _, _, h1, h2, h3, by simp [Rep], rv.stay s⟩
theorem itd_enumT {a : Addr} {ds : List D} {vs : List V} (h : ExT H1 a vs) (r : RepAll K g1 H1 ds vs) : ItD K (IteT K a) (enumFrom 0 ds) g1 H1 := by
  have hl := r.length
  refine ⟨fun i g H s hi => ?_, fun g H s => ?_, fun i g H x H' d s hd y => ?_⟩
  · have hi' : i < vs.length := by rw [hl]; simpa [enumFrom_length] using hi
    exact ⟨vs, vs[i], (h.stay s).sq, List.getElem?_eq_getElem hi'⟩
  · exact ⟨vs, (h.stay s).sq, by rw [enumFrom_length, ← hl]; exact Nat.le_refl _⟩
  · obtain ⟨T, w, h1, h2, h3, h4⟩ := y
    have hq := h4 vs (h.stay s).sq
    rw [enumFrom_get] at hd
    obtain ⟨d', hd', rfl⟩ := Option.map_eq_some_iff.mp hd
    obtain ⟨v, hv, rv⟩ := r.get hd'
    rw [hv] at hq; cases hq
    exact ⟨T, _, _, h1, h2, h3, by simp [Rep], rv.stay s⟩
theorem zipD_get : ∀ (ds es : List D) (i : Nat) (t : Itm), (zipD ds es)[i]? = some t → ∃ d e, ds[i]? = some d ∧ es[i]? = some e ∧ t = .p d e
  | [], es, i, t, h => by simp [zipD] at h
  | d :: ds, [], i, t, h => by simp [zipD] at h
  | d :: ds, e :: es, 0, t, h => by simp [zipD] at h; exact ⟨d, e, rfl, rfl, h.symm⟩
  | d :: ds, e :: es, i + 1, t, h => by
    simp only [zipD, List.getElem?_cons_succ] at h ⊢
    exact zipD_get ds es i t h
theorem zipD_length : ∀ (ds es : List D), (zipD ds es).length = min ds.length es.length
  | [], es => by simp [zipD]
  | d :: ds, [] => by simp [zipD]
  | d :: ds, e :: es => by simp only [zipD, List.length_cons, zipD_length ds es]; omega
theorem itd_zipL {a b : Addr} {ds es : List D} {vs ws : List V} (h : FzL K H1 a vs) (r : RepAll K g1 H1 ds vs) (h' : FzL K H1 b ws) (r' : RepAll K g1 H1 es ws) : ItD K (Itz K a b) (zipD ds es) g1 H1 := by
  have hl := r.length
  have hl' := r'.length
  refine ⟨fun i g H s hi => ?_, fun g H s => ?_, fun i g H x H' d s hd y => ?_⟩
  · rw [zipD_length] at hi
    have h1 : i < vs.length := by omega
    have h2 : i < ws.length := by omega
    exact ⟨vs, ws, vs[i], ws[i], (h.stay s).sq, (h'.stay s).sq, List.getElem?_eq_getElem h1, List.getElem?_eq_getElem h2⟩
  · exact ⟨vs, ws, (h.stay s).sq, (h'.stay s).sq, by rw [zipD_length]; omega⟩
  · obtain ⟨T, w, z, h1, h2, h3, h4, h5⟩ := y
    have hq := h4 vs (h.stay s).sq
    have hq' := h5 ws (h'.stay s).sq
    obtain ⟨d', e', hd', he', rfl⟩ := zipD_get _ _ _ _ hd
    obtain ⟨v, hv, rv⟩ := r.get hd'
    obtain ⟨v', hv', rv'⟩ := r'.get he'
    rw [hv] at hq; cases hq
    rw [hv'] at hq'; cases hq'
    exact ⟨T, _, _, h1, h2, h3, rv.stay s, rv'.stay s⟩
theorem itd_zipT {a b : Addr} {ds es : List D} {vs ws : List V} (h : ExT H1 a vs) (r : RepAll K g1 H1 ds vs) (h' : ExT H1 b ws) (r' : RepAll K g1 H1 es ws) : ItD K (RZ.ItzT K a b) (zipD ds es) g1 H1 := by
  have hl := r.length
  have hl' := r'.length
  refine ⟨fun i g H s hi => ?_, fun g H s => ?_, fun i g H x H' d s hd y => ?_⟩
  · rw [zipD_length] at hi
    have h1 : i < vs.length := by omega
    have h2 : i < ws.length := by omega
    exact ⟨vs, ws, vs[i], ws[i], (h.stay s).sq, (h'.stay s).sq, List.getElem?_eq_getElem h1, List.getElem?_eq_getElem h2⟩
  · exact ⟨vs, ws, (h.stay s).sq, (h'.stay s).sq, by rw [zipD_length]; omega⟩
  · obtain ⟨T, w, z, h1, h2, h3, h4, h5⟩ := y
    have hq := h4 vs (h.stay s).sq
    have hq' := h5 ws (h'.stay s).sq
    obtain ⟨d', e', hd', he', rfl⟩ := zipD_get _ _ _ _ hd
    obtain ⟨v, hv, rv⟩ := r.get hd'
    obtain ⟨v', hv', rv'⟩ := r'.get he'
    rw [hv] at hq; cases hq
    rw [hv'] at hq'; cases hq'
    exact ⟨T, _, _, h1, h2, h3, rv.stay s, rv'.stay s⟩
theorem PI.imp {w w' : TI} (h : PI X tg e w) (k : ∀ σ H R, w' σ H R → w σ H R) : PI X tg e w' := ⟨fun pins s σ H R I q => h.run pins s σ H R I (k σ H R q)⟩
theorem PI.or {w w' : TI} (h : PI X tg e w) (h' : PI X tg e w') : PI X tg e (fun σ H R => w σ H R ∨ w' σ H R) := ⟨fun pins s σ H R I q => q.elim (h.run pins s σ H R I) (h'.run pins s σ H R I)⟩
/-- lists as they stand in data -/
theorem Rep.fzL {d : D} {ds : List D} {v : V} (h : Rep K g H d v) (e : itemsD d = some ds) : (∃ a vs, v = .ref a ∧ FzL K H a vs ∧ RepAll K g H ds vs) ∨ (∃ a vs, v = .ref a ∧ ExT H a vs ∧ RepAll K g H ds vs ∧ d = .tup ds) := by
  cases d <;> simp [itemsD] at e <;> subst e <;> unfold Rep at h
  · obtain ⟨a, vs, h1, h2, h3⟩ := h; exact .inr ⟨a, vs, h1, h2, h3, rfl⟩
  · obtain ⟨a, vs, h1, h2, h3⟩ := h; exact .inl ⟨a, vs, h1, .inl h2, h3⟩
  · obtain ⟨a, vs, h1, h2, h3⟩ := h; exact .inl ⟨a, vs, h1, h2, h3⟩
theorem liftO_ok {α : Type} {o : Option α} {a : α} {s s' : Sta} (h : liftO o s = .ok a s') : o = some a ∧ s' = s := by
  unfold liftO at h
  split at h
  · cases h; exact ⟨rfl, rfl⟩
  · cases h
variable {cal : Cal} {k : Kx} {m m' : M R} {p pos tpos : Pos} {elts : List Expr} {kk : Nat}
theorem sim_iseq (h : PE X e (tE X.K m)) : PI X tg e (tI X.K (M.bind (M.bind m frz) fun d => liftO ((itemsD d).map fun ds => ds.map Itm.v))) := by
  refine PI.imp (PI.or (pi_list (PE.toD h)) (pi_tup (PE.toD h))) fun σ H R ⟨g, S, rl, its, S', hm, q⟩ => ?_
  obtain ⟨d, S1, h1, h2⟩ := bind_ok hm
  obtain ⟨h3, rfl⟩ := liftO_ok h2
  obtain ⟨ds, hd, rfl⟩ := Option.map_eq_some_iff.mp h3
  by_cases ht : ∃ xs, d = .tup xs
  · refine .inr ⟨g, S, rl, d, _, h1, fun v g' H' po rv => ?_⟩
    rcases rv.fzL hd with ⟨a, vs, rfl, hf, hr⟩ | ⟨a, vs, rfl, hf, hr, _⟩
    · obtain ⟨xs, rfl⟩ := ht
      unfold Rep at rv
      obtain ⟨a', vs', e1, h1', hr'⟩ := rv
      cases e1
      simp [itemsD] at hd; subst hd
      exact ⟨a, rfl, ⟨vs', h1'.sq⟩, q _ g' H' po (itd_tup h1' hr')⟩
    · exact ⟨a, rfl, ⟨vs, hf.sq⟩, q _ g' H' po (itd_tup hf hr)⟩
  · refine .inl ⟨g, S, rl, d, _, h1, fun v g' H' po rv => ?_⟩
    rcases rv.fzL hd with ⟨a, vs, rfl, hf, hr⟩ | ⟨a, vs, rfl, hf, hr, e⟩
    · exact ⟨a, rfl, ⟨vs, hf.sq⟩, q _ g' H' po (itd_list hf hr)⟩
    · exact (ht ⟨_, e⟩).elim
theorem sim_istr (h : PE X e (tE X.K m)) : PI X tg e (tI X.K (M.bind (M.bind m frz) fun d => liftO (strD d))) := by
  refine PI.imp (pi_str (PE.toD h)) fun σ H R ⟨g, S, rl, its, S', hm, q⟩ => ?_
  obtain ⟨d, S1, h1, h2⟩ := bind_ok hm
  obtain ⟨h3, rfl⟩ := liftO_ok h2
  refine ⟨g, S, rl, d, _, h1, fun v g' H' po rv => ?_⟩
  cases d <;> simp [strD] at h3
  subst h3
  have rv : v = .str _ := rv
  exact ⟨_, rv, q _ g' H' po (itd_str _)⟩
theorem ints1 {g : Gh} {i : Int} {vs : List V} (h : RepAll K g H [.int i] vs) : vs = [.int i] := by
  obtain ⟨v, rfl, hv⟩ := h.one
  have hv : v = .int i := hv
  rw [hv]
theorem ints2 {g : Gh} {i j : Int} {vs : List V} (h : RepAll K g H [.int i, .int j] vs) : vs = [.int i, .int j] := by
  unfold RepAll at h
  obtain ⟨v, r, rfl, hv, h⟩ := h
  have hv : v = .int i := hv
  rw [hv, ints1 h]
theorem chkA_cons {c : C} {x : Expr} {r : List Expr} (h : chkA k c (x :: r) = true) : ∃ e es, c = .cons e es ∧ chkE k e x = true ∧ chkA k es r = true := by
  cases c <;> simp [chkA] at h
  exact ⟨_, _, rfl, h⟩
theorem denD_len {mu : List Nat} {c : C} : ∀ {l : List Expr} {S S' : Sta} {ds : List D}, chkA k c l = true → denD cal mu c S = .ok ds S' → ds.length = l.length := by
  induction c with
  | nil => intro l S S' ds hc h; simp [chkA] at hc; subst hc; simp only [denD] at h; cases h; rfl
  | cons e es _ ih =>
    intro l S S' ds hc h
    cases l with
    | nil => simp [chkA] at hc
    | cons x r =>
      have hc' : chkE k e x = true ∧ chkA k es r = true := by simpa [chkA] using hc
      simp only [denD] at h
      obtain ⟨d, S1, _, h2⟩ := bind_ok h
      obtain ⟨ds', S2, h3, h4⟩ := bind_ok h2
      cases h4
      simp [ih hc'.2 h3]
  | _ => intro l S S' ds hc; simp [chkA] at hc
theorem sim_irng (cx : Cxt cal k X) (hg : glB k "range" = true) {mu : List Nat} {c : C} {l : List Expr} (hl : l.length = 1 ∨ l.length = 2) (hc : chkA k c l = true) (ha : PA X l (tDs X.K (denD cal mu c))) :
    PI X tg (.Call (.Name "range" p) l [] pos) (tI X.K (M.bind (denD cal mu c) fun ds => liftO (rngD ds))) := by
  obtain ⟨h1, h2, h3⟩ := cx.gl hg
  have hm : X.mg "range" = none := cx.blt _ (by decide)
  match l, hl, hc, ha with
  | [a], _, hc, ha =>
    have hs : starEach [a] X.env = [(false, eval a X.env)] := by
      obtain ⟨_, _, _, h, _⟩ := chkA_cons hc
      exact chkE_nostar h _ _
    refine PI.imp (pi_range1 h1 hm ha hs) fun σ H R ⟨g, S, rl, its, S', hb, q⟩ => ?_
    obtain ⟨ds, S1, hb1, hb2⟩ := bind_ok hb
    obtain ⟨hb3, rfl⟩ := liftO_ok hb2
    have hlen := denD_len hc hb1
    refine ⟨g, S, rl, ds, _, hb1, fun vs g' H' po rv => ?_⟩
    unfold rngD at hb3
    split at hb3
    · rename_i n
      split at hb3
      · rename_i hn
        cases hb3
        obtain ⟨b1, b2⟩ := small62_iff hn
        have := q (Itr 0 (n - 0).toNat) g' H' po (itd_range 0 n)
        rw [Int.sub_zero] at this
        exact ⟨n, ints1 rv, b1, b2, this⟩
      · cases hb3
    · simp at hlen
    · cases hb3
  | [a, b], _, hc, ha =>
    have hs : starEach [a, b] X.env = [(false, eval a X.env), (false, eval b X.env)] ∧ starEach [b] X.env = [(false, eval b X.env)] := by
      obtain ⟨_, _, _, h, hr⟩ := chkA_cons hc
      obtain ⟨_, _, _, h', _⟩ := chkA_cons hr
      have e2 : starEach [b] X.env = [(false, eval b X.env)] := chkE_nostar h' _ _
      exact ⟨by rw [chkE_nostar h, e2], e2⟩
    refine PI.imp (pi_range2 h1 hm ha hs.1 hs.2) fun σ H R ⟨g, S, rl, its, S', hb, q⟩ => ?_
    obtain ⟨ds, S1, hb1, hb2⟩ := bind_ok hb
    obtain ⟨hb3, rfl⟩ := liftO_ok hb2
    have hlen := denD_len hc hb1
    refine ⟨g, S, rl, ds, _, hb1, fun vs g' H' po rv => ?_⟩
    unfold rngD at hb3
    split at hb3
    · simp at hlen
    · rename_i i n
      split at hb3
      · rename_i hn
        cases hb3
        obtain ⟨b1, b2⟩ := small62_iff hn.1
        obtain ⟨b3, b4⟩ := small62_iff hn.2
        exact ⟨i, n, ints2 rv, ⟨b1, b2, b3, b4⟩, q _ g' H' po (itd_range i n)⟩
      · cases hb3
    · cases hb3
theorem one_rep {g : Gh} {d : D} {ds : List D} {vs : List V} (hd : one ds = some d) (h : RepAll K g H ds vs) : ∃ v, vs = [v] ∧ Rep K g H d v := by
  have := one_iff hd
  subst this
  exact h.one
theorem sim_ienum (cx : Cxt cal k X) (hg : glB k "enumerate" = true) {ms : M (List D)} (hs : starEach [e] X.env = [(false, eval e X.env)]) (ha : PA X [e] (tDs X.K ms)) :
    PI X (.Tuple elts kk tpos) (.Call (.Name "enumerate" p) [e] [] pos) (tI X.K (M.bind ms fun ds => liftO ((one ds).bind fun d => (itemsD d).map (enumFrom 0)))) := by
  obtain ⟨h1, h2, h3⟩ := cx.gl hg
  have hm : X.mg "enumerate" = none := cx.blt _ (by decide)
  refine PI.imp (PI.or (pi_enum h1 hm ha hs) (pi_enumT h1 hm ha hs)) fun σ H R ⟨g, S, rl, its, S', hb, q⟩ => ?_
  obtain ⟨ds, S1, hb1, hb2⟩ := bind_ok hb
  obtain ⟨hb3, rfl⟩ := liftO_ok hb2
  obtain ⟨d, hd, hb4⟩ := Option.bind_eq_some_iff.mp hb3
  obtain ⟨xs, hx, rfl⟩ := Option.map_eq_some_iff.mp hb4
  by_cases ht : ∃ xs, d = .tup xs
  · refine .inr ⟨g, S, rl, ds, _, hb1, fun vs g' H' po rv => ?_⟩
    obtain ⟨v, rfl, rv1⟩ := one_rep hd rv
    rcases rv1.fzL hx with ⟨a, vs, rfl, hf, hr⟩ | ⟨a, vs, rfl, hf, hr, _⟩
    · obtain ⟨xs, rfl⟩ := ht
      unfold Rep at rv1
      obtain ⟨a', vs', e1, h1', hr'⟩ := rv1
      cases e1
      simp [itemsD] at hx; subst hx
      exact ⟨a, vs', rfl, h1'.sq, q _ g' H' po (itd_enumT h1' hr')⟩
    · exact ⟨a, vs, rfl, hf.sq, q _ g' H' po (itd_enumT hf hr)⟩
  · refine .inl ⟨g, S, rl, ds, _, hb1, fun vs g' H' po rv => ?_⟩
    obtain ⟨v, rfl, rv1⟩ := one_rep hd rv
    rcases rv1.fzL hx with ⟨a, vs, rfl, hf, hr⟩ | ⟨a, vs, rfl, hf, hr, e⟩
    · exact ⟨a, vs, rfl, hf.sq, q _ g' H' po (itd_enumL hf hr)⟩
    · exact (ht ⟨_, e⟩).elim
theorem bothD_iff {x y : D} {p : List D × List D} (h : bothD x y = some p) : (x = .tup p.1 ∧ y = .tup p.2) ∨ (itemsD x = some p.1 ∧ itemsD y = some p.2 ∧ (∀ z, x ≠ .tup z) ∧ ∀ z, y ≠ .tup z) := by
  cases x <;> cases y <;> simp [bothD, itemsD] at h <;> subst h <;> simp [itemsD]
theorem Rep.fz {d : D} {ds : List D} {v : V} (h : Rep K g H d v) (e : itemsD d = some ds) (n : ∀ z, d ≠ .tup z) : ∃ a vs, v = .ref a ∧ FzL K H a vs ∧ RepAll K g H ds vs := by
  rcases h.fzL e with h | ⟨a, vs, _, _, _, e⟩
  · exact h
  · exact (n _ e).elim
theorem sim_izip (cx : Cxt cal k X) (hg : glB k "zip" = true) {e2 : Expr} {ms : M (List D)} (hs : starEach [e, e2] X.env = (false, eval e X.env) :: starEach [e2] X.env) (hpl : (backTo pos (starEach [e2] X.env)).any (·.1) = false) (ha : PA X [e, e2] (tDs X.K ms)) :
    PI X (.Tuple elts kk tpos) (.Call (.Name "zip" p) [e, e2] [] pos) (tI X.K (M.bind ms fun ds => liftO ((two ds).bind fun p => (bothD p.1 p.2).map fun q => zipD q.1 q.2))) := by
  obtain ⟨h1, h2, h3⟩ := cx.gl hg
  have hm : X.mg "zip" = none := cx.blt _ (by decide)
  refine PI.imp (RZ.pi_zipA h1 hm ha hs hpl) fun σ H R ⟨g, S, rl, its, S', hb, q⟩ => ?_
  obtain ⟨ds, S1, hb1, hb2⟩ := bind_ok hb
  obtain ⟨hb3, rfl⟩ := liftO_ok hb2
  obtain ⟨pr, hd, hb4⟩ := Option.bind_eq_some_iff.mp hb3
  obtain ⟨xs, hx, rfl⟩ := Option.map_eq_some_iff.mp hb4
  refine ⟨g, S, rl, ds, _, hb1, fun vs g' H' po rv => ?_⟩
  have := two_iff hd
  subst this
  unfold RepAll at rv
  obtain ⟨v, r, rfl, hv, rv⟩ := rv
  obtain ⟨w, rfl, hw⟩ := rv.one
  rcases bothD_iff hx with ⟨e1, e2⟩ | ⟨e1, e2, n1, n2⟩
  · rw [e1] at hv
    rw [e2] at hw
    unfold Rep at hv hw
    obtain ⟨a, vs, rfl, h1', hr⟩ := hv
    obtain ⟨b, ws, rfl, h2', hr'⟩ := hw
    exact ⟨a, b, vs, ws, rfl, .inr ⟨h1'.sq, h2'.sq, q _ g' H' po (itd_zipT h1' hr h2' hr')⟩⟩
  · obtain ⟨a, vs, rfl, h1', hr⟩ := hv.fz e1 n1
    obtain ⟨b, ws, rfl, h2', hr'⟩ := hw.fz e2 n2
    exact ⟨a, b, vs, ws, rfl, .inl ⟨h1'.sq, h2'.sq, q _ g' H' po (itd_zipL h1' hr h2' hr')⟩⟩
end
end NH

set_option Elab.async false
set_option linter.all false
set_option maxRecDepth 100000
set_option maxHeartbeats 1000000
set_option autoImplicit false
namespace NH
open PySem L2
/-- behind a target: the names of ns may have changed, those of mu not -/
structure St2 (K : PySem.W.Frag) (mu ns : List Nat) (g : Gh) (S : Sta) (σ : St) (H : Hp) (g' : Gh) (S' : Sta) (σ' : St) (H' : Hp) : Prop where
  rel : Rel K g' S' σ' H'
  own : ∀ i a, OwnAt S' σ' i a → OwnAt S σ i a
  fr : Fr S σ g g' H H'
  same : ∀ (i : Nat), i ∉ ns → σ'[i]? = σ[i]?
  smu : ∀ i ∈ mu, σ'[i]? = σ[i]?
  len : σ'.length = σ.length
section
variable {K : PySem.W.Frag} {mu ns : List Nat} {g g' g'' : Gh} {S S' S'' : Sta} {σ σ' σ'' : St} {H H' H'' : Hp} {X : Cx}
theorem Fr.trans2 (l : ∀ i a, OwnAt S' σ' i a → OwnAt S σ i a) (a : Fr S σ g g' H H') (b : Fr S' σ' g' g'' H' H'') : Fr S σ g g'' H H'' := by
  obtain ⟨l1, e1, n1⟩ := a.ext
  obtain ⟨l2, e2, n2⟩ := b.ext
  refine ⟨⟨l1 ++ l2, by rw [e2, e1, List.append_assoc], fun x hx => ?_⟩, fun x o h hg ho => ?_, fun x h => a.there x (b.there x h)⟩
  · rcases List.mem_append.mp hx with h | h
    · exact n1 x h
    · exact a.there x (n2 x h)
  · refine b.keep x o (a.keep x o h hg ho) ?_ fun i hi => ho i (l i x hi)
    rw [e1]
    intro hm
    rcases List.mem_append.mp hm with hm | hm
    · exact hg hm
    · rw [n1 x hm] at h; cases h
theorem St2.refl (r : Rel K g S σ H) : St2 K mu ns g S σ H g S σ H := ⟨r, fun _ _ h => h, .refl, fun _ _ => rfl, fun _ _ => rfl, rfl⟩
theorem St2.trans (a : St2 K mu ns g S σ H g' S' σ' H') (b : St2 K mu ns g' S' σ' H' g'' S'' σ'' H'') : St2 K mu ns g S σ H g'' S'' σ'' H'' :=
  ⟨b.rel, fun i x h => a.own i x (b.own i x h), .trans2 a.own a.fr b.fr, fun i h => (b.same i h).trans (a.same i h), fun i h => (b.smu i h).trans (a.smu i h), b.len.trans a.len⟩
theorem Po.st2 (a : Po K g S σ H g' S' H') : St2 K mu ns g S σ H g' S' σ H' := ⟨a.rel, fun i x h => a.less.at h, a.fr, fun _ _ => rfl, fun _ _ => rfl, rfl⟩
theorem St2.mono {ns' : List Nat} (a : St2 K mu ns g S σ H g' S' σ' H') (h : ∀ i ∈ ns, i ∈ ns') : St2 K mu ns' g S σ H g' S' σ' H' := ⟨a.rel, a.own, a.fr, fun i hi => a.same i fun z => hi (h i z), a.smu, a.len⟩
theorem St2.stay (r : Rel K g S σ H) (a : St2 K mu ns g S σ H g' S' σ' H') : Stay g g' H H' := a.fr.stay r
theorem Rel.setVal {i : Nat} {d : D} {v : V} (r : Rel K g S σ H) (h : Rep K g H d v) (hi : i < S.σ.length) : Rel K g { S with σ := S.σ.set i (.val d) } (σ.set i (some v)) H ∧ ∀ j a, OwnAt { S with σ := S.σ.set i (.val d) } (σ.set i (some v)) j a → OwnAt S σ j a := by
  have hi' : i < σ.length := by rw [← r.len]; exact hi
  have own : ∀ j a, OwnAt { S with σ := S.σ.set i (.val d) } (σ.set i (some v)) j a → OwnAt S σ j a := by
    rintro j a ⟨⟨o, ho⟩, hs⟩
    by_cases e : i = j
    · subst e
      have ho : (S.σ.set i (.val d))[i]? = some (.own o) := ho
      rw [List.getElem?_set_self hi] at ho; cases ho
    · have ho : (S.σ.set i (.val d))[j]? = some (.own o) := ho
      rw [List.getElem?_set_ne e] at ho hs
      exact ⟨⟨o, ho⟩, hs⟩
  refine ⟨⟨by simpa using r.len, fun j d' hj => ?_, fun j o hj => ?_, fun j l a h1 h2 => r.inj j l a (own j a h1) (own l a h2), r.st, r.gl, r.gn⟩, own⟩
  · have hj : (S.σ.set i (.val d))[j]? = some (.val d') := hj
    by_cases e : i = j
    · subst e
      rw [List.getElem?_set_self hi] at hj; cases hj
      exact ⟨v, List.getElem?_set_self hi', h⟩
    · rw [List.getElem?_set_ne e] at hj ⊢
      exact r.val j d' hj
  · have hj : (S.σ.set i (.val d))[j]? = some (.own o) := hj
    by_cases e : i = j
    · subst e
      rw [List.getElem?_set_self hi] at hj; cases hj
    · rw [List.getElem?_set_ne e] at hj ⊢
      exact r.own j o hj
theorem setSlot_ok {i : Nat} {x : Sl} (h : setSlot mu i x S = .ok () S') : i < S.σ.length ∧ i ∉ mu ∧ S' = { S with σ := S.σ.set i x } := by
  unfold setSlot at h
  split at h
  · rename_i c; cases h; exact ⟨c.1, c.2, rfl⟩
  · cases h
theorem St2.setVal {i : Nat} {d : D} {v : V} (r : Rel K g S σ H) (h : Rep K g H d v) (hs : setSlot mu i (.val d) S = .ok () S') (hn : i ∈ ns) : St2 K mu ns g S σ H g S' (σ.set i (some v)) H := by
  obtain ⟨h1, h2, rfl⟩ := setSlot_ok hs
  obtain ⟨r1, r2⟩ := r.setVal h h1
  refine ⟨r1, r2, .refl, fun j hj => ?_, fun j hj => ?_, by simp⟩
  · rw [List.getElem?_set_ne (fun (e : i = j) => hj (e ▸ hn))]
  · rw [List.getElem?_set_ne (fun (e : i = j) => h2 (e ▸ hj))]
end
/-- an item of a walk, as the target finds it -/
def RepJ (K : PySem.W.Frag) (g : Gh) (H : Hp) : Itm → V → Prop
  | .v d, x => Rep K g H d x
  | .p a b, x => ∃ T y z, x = .ref T ∧ H T = some (.tup [y, z]) ∧ Rep K g H a y ∧ Rep K g H b z
def tT (K : PySem.W.Frag) (mu ns : List Nat) (m : D → M Unit) : TG := fun v σ H Q => ∃ g S d, Rel K g S σ H ∧ Rep K g H d v ∧ ∃ S', m d S = .ok () S' ∧ ∀ g' σ' H', St2 K mu ns g S σ H g' S' σ' H' → Q σ' H'
def tGi (K : PySem.W.Frag) (mu ns : List Nat) (m : Itm → M Unit) : TG := fun v σ H Q => ∃ g S it, Rel K g S σ H ∧ RepJ K g H it v ∧ ∃ S', m it S = .ok () S' ∧ ∀ g' σ' H', St2 K mu ns g S σ H g' S' σ' H' → Q σ' H'
def tTs (K : PySem.W.Frag) (mu ns : List Nat) (m : List D → M Unit) : TGs := fun vs σ H Q => ∃ g S ds, Rel K g S σ H ∧ RepAll K g H ds vs ∧ ∃ S', m ds S = .ok () S' ∧ ∀ g' σ' H', St2 K mu ns g S σ H g' S' σ' H' → Q σ' H'
section
variable {K : PySem.W.Frag} {mu ns : List Nat} {g g' g'' : Gh} {S S' S'' : Sta} {σ σ' σ'' : St} {H H' H'' : Hp} {X : Cx} {cal : Cal} {k : Kx} {pos : Pos}
theorem RepI.step {it : Itm} {x : V} (r : Rel K g S σ H) (h : RepI K g H it x H') : Po K g S σ H g S H' ∧ RepJ K g H' it x := by
  cases it with
  | v d => obtain ⟨rfl, h⟩ := h; exact ⟨.refl r, h⟩
  | p a b =>
    obtain ⟨T, y, z, rfl, hT, rfl, h1, h2⟩ := h
    exact ⟨.fresh r hT, T, y, z, rfl, upd_same, h1.stay (Stay.fresh hT), h2.stay (Stay.fresh hT)⟩
theorem sim_tnG (cx : Cxt cal k X) {i : Nat} {x : Str} (h : stoB k i x = true) (hn : i ∈ ns) : PG X (.Name x pos) (tGi X.K mu ns (denG cal mu (.tn i))) := by
  obtain ⟨h1, h2, h3⟩ := cx.sto h
  refine PG.imp (pg_name cx.nd' h1 h2 h3) fun v σ H Q ⟨g, S, it, rl, rj, S', hm, q⟩ => ?_
  simp only [denG] at hm
  cases it with
  | v d => exact q _ _ _ (.setVal rl rj hm hn)
  | p a b => cases hm
theorem sim_tn (cx : Cxt cal k X) {i : Nat} {x : Str} (h : stoB k i x = true) (hn : i ∈ ns) : PG X (.Name x pos) (tT X.K mu ns (denT cal mu (.tn i))) := by
  obtain ⟨h1, h2, h3⟩ := cx.sto h
  refine PG.imp (pg_name cx.nd' h1 h2 h3) fun v σ H Q ⟨g, S, d, rl, rj, S', hm, q⟩ => ?_
  simp only [denT] at hm
  exact q _ _ _ (.setVal rl rj hm hn)
theorem sim_ti (cx : Cxt cal k X) {co ci : C} {o i : Expr} (hi : chkE k ci i = true) (ho' : PE X o (tE X.K (denE cal mu co))) (hi' : PE X i (tE X.K (denE cal mu ci))) :
    PG X (.Subscript o i pos) (tT X.K mu ns (denT cal mu (.ti co ci))) := by
  have ha : ∀ v, assign (.Subscript o i pos) X.env v = (do
      let ov ← holding [v] (eval o X.env)
      let iv ← holding [v, ov] (eval i X.env)
      standAt pos
      holding [v, ov, iv] (PySem.setItem ov iv v)
      release [v, ov, iv] []) := by
    intro v
    cases i <;> first | rfl | skip
    rw [chkE_slice] at hi; cases hi
  refine PG.imp (pg_sub ho' (PE.toD hi') (set_all (X := X) (by have := cx.hu; omega)) ha) fun v σ H Q ⟨g, S, d, rl, rd, S', hm, q⟩ => ?_
  simp only [denT] at hm
  obtain ⟨r, S1, m1, hm1⟩ := bind_ok hm
  obtain ⟨kd, S2, m2, hm2⟩ := bind_ok hm1
  refine ⟨g, S, rl, r, S1, m1, fun v1 g1 H1 p1 r1 => ⟨g1, S1, p1.rel, kd, S2, m2, fun v2 g2 H2 p2 r2 => ?_⟩⟩
  unfold NH.setItem at hm2
  split at hm2
  · rename_i o1 hd
    split at hm2
    · rename_i o' ho
      obtain ⟨a, rfl, hro, hpo⟩ := setPl_ok p2.rel (r1.mono p1.rel p2) hd hm2
      refine ⟨g2, o1, o', d, a, kd, rfl, hro, r2, rd.stay ((p1.stay rl).trans (p2.stay p1.rel)), ho, fun u hu => ?_⟩
      exact q _ _ _ (Po.st2 ((p1.trans p2).trans (hpo u hu)))
    · cases hm2
  · cases hm2
theorem sim_tnil : PGs X [] (tTs X.K mu ns (denTs cal mu .nil)) := by
  refine PGs.imp pgs_nil fun vs σ H Q ⟨g, S, ds, rl, rd, S', hm, q⟩ => ?_
  simp only [denTs] at hm
  cases ds with
  | nil => cases hm; unfold RepAll at rd; exact ⟨rd, q _ _ _ (.refl rl)⟩
  | cons d ds => cases hm
theorem chkT_starred {c : C} {x : Expr} {p : Pos} : chkT k c (.Starred x p) = false := by
  cases c <;> simp [chkT]
theorem chkT_each {c : C} {e : Expr} (h : chkT k c e = true) (es : List Expr) (env : Env) : assignEach (e :: es) env = (false, assign e env) :: assignEach es env := by
  cases e <;> first | rfl | skip
  rw [chkT_starred] at h; cases h
theorem sim_tcons {t ts : C} {e : Expr} {es : List Expr} (hc : chkT k t e = true) (h1 : PG X e (tT X.K mu ns (denT cal mu t))) (h2 : PGs X es (tTs X.K mu ns (denTs cal mu ts))) : PGs X (e :: es) (tTs X.K mu ns (denTs cal mu (.cons t ts))) := by
  refine PGs.imp (pgs_cons h1 h2 (by rw [chkT_each hc]; rfl)) fun vs σ H Q ⟨g, S, ds, rl, rd, S', hm, q⟩ => ?_
  simp only [denTs] at hm
  cases ds with
  | nil => cases hm
  | cons d ds =>
    obtain ⟨_, S1, m1, hm1⟩ := bind_ok hm
    unfold RepAll at rd
    obtain ⟨v, r, rfl, rv, rd⟩ := rd
    refine ⟨v, r, rfl, g, S, d, rl, rv, S1, m1, fun g1 σ1 H1 s1 => ?_⟩
    exact ⟨g1, S1, ds, s1.rel, rd.stay (s1.stay rl), S', hm1, fun g2 σ2 H2 s2 => q _ _ _ (s1.trans s2)⟩
theorem PG.or {e : Expr} {t t' : TG} (h : PG X e t) (h' : PG X e t') : PG X e (fun v σ H Q => t v σ H Q ∨ t' v σ H Q) := ⟨fun pins s σ H v u Q I r q => q.elim (h.run pins s σ H v u Q I r) (h'.run pins s σ H v u Q I r)⟩
theorem chkTs_each {c : C} : ∀ {l : List Expr} (env : Env), chkTs k c l = true → (assignEach l env).length = l.length ∧ (assignEach l env).findIdx? (·.1) = none := by
  induction c with
  | nil => intro l env h; simp [chkTs] at h; subst h; exact ⟨rfl, rfl⟩
  | cons t ts _ ih =>
    intro l env h
    cases l with
    | nil => simp [chkTs] at h
    | cons e r =>
      have h' : chkT k t e = true ∧ chkTs k ts r = true := by simpa [chkTs] using h
      obtain ⟨i1, i2⟩ := ih env h'.2
      rw [chkT_each h'.1]
      exact ⟨by simp [i1], by simp [List.findIdx?_cons, i2]⟩
  | _ => intro l env h; simp [chkTs] at h
theorem denTs_len {c : C} : ∀ {l : List Expr} {ds : List D} {S S' : Sta}, chkTs k c l = true → denTs cal mu c ds S = .ok () S' → ds.length = l.length := by
  induction c with
  | nil =>
    intro l ds S S' h hm
    simp [chkTs] at h; subst h
    simp only [denTs] at hm
    cases ds with
    | nil => rfl
    | cons d ds => cases hm
  | cons t ts _ ih =>
    intro l ds S S' h hm
    cases l with
    | nil => simp [chkTs] at h
    | cons e r =>
      have h' : chkT k t e = true ∧ chkTs k ts r = true := by simpa [chkTs] using h
      simp only [denTs] at hm
      cases ds with
      | nil => cases hm
      | cons d ds =>
        obtain ⟨_, S1, _, hm1⟩ := bind_ok hm
        simp [ih h'.2 hm1]
  | _ => intro l ds S S' h; simp [chkTs] at h
theorem sim_tt0 (cx : Cxt cal k X) {ts : C} {l : List Expr} {kk : Nat} (hc : chkTs k ts l = true) (h : PGs X l (tTs X.K mu ns (denTs cal mu ts))) :
    PG X (.Tuple l kk pos) (fun v σ H Q => ∃ a vs, v = .ref a ∧ (SqT X.K H a vs ∨ SqL X.K H a vs) ∧ ∃ g S ds, Rel X.K g S σ H ∧ RepAll X.K g H ds vs ∧ ∃ S', denTs cal mu ts ds S = .ok () S' ∧ ∀ g' σ' H', St2 X.K mu ns g S σ H g' S' σ' H' → Q σ' H') := by
  obtain ⟨e1, e2⟩ := chkTs_each X.env hc
  refine PG.imp (PG.or (pg_tup cx.calm h e1 e2) (pg_unl cx.calm h e1 e2)) fun v σ H Q ⟨a, vs, ev, hs, g, S, ds, rl, rd, S', hm, q⟩ => ?_
  have hl : vs.length = l.length := by rw [rd.length]; exact denTs_len hc hm
  rcases hs with hs | hs
  · exact .inl ⟨a, vs, ev, hs, hl, g, S, ds, rl, rd, S', hm, q⟩
  · exact .inr ⟨a, vs, ev, hs, hl, g, S, ds, rl, rd, S', hm, q⟩
theorem Rep.sq {d : D} {ds : List D} {v : V} (h : Rep K g H d v) (e : itemsD d = some ds) : ∃ a vs, v = .ref a ∧ (SqT K H a vs ∨ SqL K H a vs) ∧ RepAll K g H ds vs := by
  rcases h.fzL e with ⟨a, vs, h1, h2, h3⟩ | ⟨a, vs, h1, h2, h3, _⟩
  · exact ⟨a, vs, h1, .inr h2.sq, h3⟩
  · exact ⟨a, vs, h1, .inl h2.sq, h3⟩
theorem sim_tt (cx : Cxt cal k X) {ts : C} {l : List Expr} {kk : Nat} (hc : chkTs k ts l = true) (h : PGs X l (tTs X.K mu ns (denTs cal mu ts))) : PG X (.Tuple l kk pos) (tT X.K mu ns (denT cal mu (.tt ts))) := by
  refine PG.imp (sim_tt0 cx hc h) fun v σ H Q ⟨g, S, d, rl, rd, S', hm, q⟩ => ?_
  simp only [denT] at hm
  obtain ⟨ds, S1, m1, hm1⟩ := bind_ok hm
  obtain ⟨m2, rfl⟩ := liftO_ok m1
  obtain ⟨a, vs, h1, h2, h3⟩ := rd.sq m2
  exact ⟨a, vs, h1, h2, g, _, ds, rl, h3, S', hm1, q⟩
theorem sim_ttG (cx : Cxt cal k X) {ts : C} {l : List Expr} {kk : Nat} (hc : chkTs k ts l = true) (h : PGs X l (tTs X.K mu ns (denTs cal mu ts))) : PG X (.Tuple l kk pos) (tGi X.K mu ns (denG cal mu (.tt ts))) := by
  refine PG.imp (sim_tt0 cx hc h) fun v σ H Q ⟨g, S, it, rl, rj, S', hm, q⟩ => ?_
  simp only [denG] at hm
  cases it with
  | v d =>
    obtain ⟨ds, S1, m1, hm1⟩ := bind_ok hm
    obtain ⟨m2, rfl⟩ := liftO_ok m1
    have rj : Rep X.K g H d v := rj
    obtain ⟨a, vs, h1, h2, h3⟩ := rj.sq m2
    exact ⟨a, vs, h1, h2, g, _, ds, rl, h3, S', hm1, q⟩
  | p a b =>
    obtain ⟨T, y, z, rfl, hT, h1, h2⟩ := rj
    refine ⟨T, [y, z], rfl, .inl (.inl (.inl hT)), g, S, [a, b], rl, ?_, S', hm, q⟩
    unfold RepAll
    refine ⟨y, [z], rfl, h1, ?_⟩
    unfold RepAll
    refine ⟨z, [], rfl, h2, ?_⟩
    unfold RepAll
    rfl
end
end NH

set_option Elab.async false
set_option linter.all false
set_option maxRecDepth 100000
set_option maxHeartbeats 1000000
set_option autoImplicit false
namespace NH
open PySem L2
def wS (vs : List Nat) (S : Sta) : Sta := { S with σ := wipeS S.σ vs }
theorem wipeS_length (σ : List Sl) : ∀ vs : List Nat, (wipeS σ vs).length = σ.length
  | [] => rfl
  | v :: vs => by unfold wipeS; rw [List.length_set, wipeS_length σ vs]
theorem wipeS_out {σ : List Sl} {i : Nat} : ∀ {vs : List Nat}, i ∉ vs → (wipeS σ vs)[i]? = σ[i]?
  | [], _ => rfl
  | v :: vs, h => by
    have h1 : v ≠ i := fun e => h (by rw [e]; exact List.mem_cons_self)
    have h2 : i ∉ vs := fun m => h (List.mem_cons_of_mem _ m)
    unfold wipeS
    rw [List.getElem?_set_ne h1]
    exact wipeS_out h2
theorem wipeS_in {σ : List Sl} {i : Nat} : ∀ {vs : List Nat}, i ∈ vs → (wipeS σ vs)[i]? = if i < σ.length then some .no else none
  | [], h => by simp at h
  | v :: vs, h => by
    unfold wipeS
    by_cases e : v = i
    · subst e
      by_cases hl : v < σ.length
      · rw [List.getElem?_set_self (by rw [wipeS_length]; exact hl), if_pos hl]
      · rw [if_neg hl, List.getElem?_eq_none (by rw [List.length_set, wipeS_length]; omega)]
    · rw [List.getElem?_set_ne e]
      exact wipeS_in (by simpa [Ne.symm e] using h)
theorem wipe_in {σ : St} {i : Nat} : ∀ {vs : List Nat}, i ∈ vs → (wipe σ vs)[i]? = if i < σ.length then some none else none
  | [], h => by simp at h
  | v :: vs, h => by
    unfold wipe
    by_cases e : v = i
    · subst e
      by_cases hl : v < σ.length
      · rw [List.getElem?_set_self (by rw [wipe_length]; exact hl), if_pos hl]
      · rw [if_neg hl, List.getElem?_eq_none (by rw [List.length_set, wipe_length]; omega)]
    · rw [List.getElem?_set_ne e]
      exact wipe_in (by simpa [Ne.symm e] using h)
theorem backS_length (σ0 σ : List Sl) : ∀ vs : List Nat, (backS σ0 σ vs).length = σ.length
  | [] => rfl
  | v :: vs => by unfold backS; rw [List.length_set, backS_length σ0 σ vs]
theorem backS_out {σ0 σ : List Sl} {i : Nat} : ∀ {vs : List Nat}, i ∉ vs → (backS σ0 σ vs)[i]? = σ[i]?
  | [], _ => rfl
  | v :: vs, h => by
    have h1 : v ≠ i := fun e => h (by rw [e]; exact List.mem_cons_self)
    have h2 : i ∉ vs := fun m => h (List.mem_cons_of_mem _ m)
    unfold backS
    rw [List.getElem?_set_ne h1]
    exact backS_out h2
theorem backS_in {σ0 σ : List Sl} {i : Nat} : ∀ {vs : List Nat}, i ∈ vs → (backS σ0 σ vs)[i]? = if i < σ.length then some (σ0.getD i .no) else none
  | [], h => by simp at h
  | v :: vs, h => by
    unfold backS
    by_cases e : v = i
    · subst e
      by_cases hl : v < σ.length
      · rw [List.getElem?_set_self (by rw [backS_length]; exact hl), if_pos hl]
      · rw [if_neg hl, List.getElem?_eq_none (by rw [List.length_set, backS_length]; omega)]
    · rw [List.getElem?_set_ne e]
      exact backS_in (by simpa [Ne.symm e] using h)
section
variable {K : PySem.W.Frag} {mu vs : List Nat} {g g' g'' g1 : Gh} {S S' S'' S1 S2 : Sta} {σ σ' σ'' : St} {H H0 H' H'' H1 : Hp} {X : Cx}
theorem wipe_eq (hl : σ'.length = σ.length) (h : ∀ (i : Nat), i ∉ vs → σ'[i]? = (wipe σ vs)[i]?) : wipe σ' vs = wipe σ vs := by
  apply List.ext_getElem?
  intro i
  by_cases hi : i ∈ vs
  · rw [wipe_in hi, wipe_in hi, hl]
  · rw [wipe_out hi, h i hi]
theorem wS_own {i : Nat} {o : O} (h : (wS vs S).σ[i]? = some (.own o)) : i ∉ vs ∧ S.σ[i]? = some (.own o) := by
  by_cases hi : i ∈ vs
  · have h : (wipeS S.σ vs)[i]? = some (.own o) := h
    rw [wipeS_in hi] at h
    split at h <;> simp at h
  · exact ⟨hi, by rw [← wipeS_out (vs := vs) hi]; exact h⟩
theorem wS_val {i : Nat} {d : D} (h : (wS vs S).σ[i]? = some (.val d)) : i ∉ vs ∧ S.σ[i]? = some (.val d) := by
  by_cases hi : i ∈ vs
  · have h : (wipeS S.σ vs)[i]? = some (.val d) := h
    rw [wipeS_in hi] at h
    split at h <;> simp at h
  · exact ⟨hi, by rw [← wipeS_out (vs := vs) hi]; exact h⟩
theorem wS_at {i : Nat} {a : Addr} (h : OwnAt (wS vs S) (wipe σ vs) i a) : i ∉ vs ∧ OwnAt S σ i a := by
  obtain ⟨⟨o, ho⟩, e⟩ := h
  obtain ⟨h1, h2⟩ := wS_own ho
  exact ⟨h1, ⟨o, h2⟩, by rw [← wipe_out (vs := vs) h1]; exact e⟩
theorem at_wS {i : Nat} {a : Addr} (hi : i ∉ vs) (h : OwnAt S σ i a) : OwnAt (wS vs S) (wipe σ vs) i a := by
  obtain ⟨⟨o, ho⟩, e⟩ := h
  exact ⟨⟨o, by show (wipeS S.σ vs)[i]? = _; rw [wipeS_out hi]; exact ho⟩, by rw [wipe_out hi]; exact e⟩
theorem Rel.wipe (r : Rel K g S σ H) : Rel K g (wS vs S) (L2.wipe σ vs) H := by
  refine ⟨by show (wipeS S.σ vs).length = _; rw [wipeS_length, wipe_length]; exact r.len, fun i d h => ?_, fun i o h => ?_, fun i j a h1 h2 => r.inj i j a (wS_at h1).2 (wS_at h2).2, r.st, r.gl, r.gn⟩
  · obtain ⟨h1, h2⟩ := wS_val h
    rw [wipe_out h1]
    exact r.val i d h2
  · obtain ⟨h1, h2⟩ := wS_own h
    rw [wipe_out h1]
    exact r.own i o h2
/-- a new object that waits -/
def Pend (K : PySem.W.Frag) (g : Gh) (S : Sta) (σ : St) (H0 H : Hp) (o : O) (a : Addr) : Prop := RepO K g H o a ∧ H0 a = none ∧ a ∉ g ∧ ∀ i, ¬ OwnAt S σ i a
theorem Pend.step {o : O} {a : Addr} (h : Pend K g S σ H0 H o a) (rl : Rel K g S σ H) (s : St2 K mu vs g S σ H g' S' σ' H') : Pend K g' S' σ' H0 H' o a := by
  obtain ⟨ro, h0, hg, ho⟩ := h
  obtain ⟨u, hu, _⟩ := ro.mut
  have k := s.fr.keep a u hu hg ho
  refine ⟨ro.stay (s.stay rl) (k.trans hu.symm), h0, ?_, fun i hi => ho i (s.own i a hi)⟩
  obtain ⟨l, rfl, hl⟩ := s.fr.ext
  intro hm
  rcases List.mem_append.mp hm with z | z
  · exact hg z
  · rw [hl a z] at hu; cases hu
/-- a turn is over -/
theorem back_turn (A : St2 K mu vs g1 (wS vs S1) (wipe σ vs) H1 g' S' σ' H') (hw : L2.wipe σ' vs = L2.wipe σ vs) : Po K g1 (wS vs S1) (wipe σ vs) H1 g' (wS vs S') H' := by
  have r := A.rel.wipe (vs := vs)
  rw [hw] at r
  refine ⟨r, fun i o h => ?_, A.fr⟩
  obtain ⟨h1, h2⟩ := wS_own h
  obtain ⟨a, e, _⟩ := A.rel.own i o h2
  exact (A.own i a ⟨⟨o, h2⟩, e⟩).1
theorem Pend.wipe {o : O} {a : Addr} (h : Pend K g S σ' H0 H o a) (hw : L2.wipe σ' vs = L2.wipe σ vs) : Pend K g (wS vs S) (L2.wipe σ vs) H0 H o a := by
  obtain ⟨h1, h2, h3, h4⟩ := h
  refine ⟨h1, h2, h3, fun i hi => ?_⟩
  rw [← hw] at hi
  exact h4 i (wS_at hi).2
theorem lc_back (rl1 : Rel K g1 S1 σ H1) (p : Po K g1 (wS vs S1) (wipe σ vs) H1 g' (wS vs S2) H') : Po K g1 S1 σ H1 g' { S2 with σ := backS S1.σ S2.σ vs } H' := by
  have hl2 : S2.σ.length = σ.length := by
    have := p.rel.len
    rw [wipe_length] at this
    rw [← this]
    exact (wipeS_length S2.σ vs).symm
  have hl1 : S1.σ.length = σ.length := rl1.len
  have stay : Stay g1 g' H1 H' := p.fr.stay rl1.wipe
  have get : ∀ (i : Nat), i ∈ vs → (backS S1.σ S2.σ vs)[i]? = if i < σ.length then some (S1.σ.getD i .no) else none := fun i hi => by rw [backS_in hi, hl2]
  have getD : ∀ (i : Nat), i < σ.length → S1.σ[i]? = some (S1.σ.getD i .no) := fun i hi => by
    rw [List.getD_eq_getElem?_getD, List.getElem?_eq_getElem (by omega)]; rfl
  have sl : ∀ (i : Nat) (x : Sl), (backS S1.σ S2.σ vs)[i]? = some x → (i ∈ vs ∧ S1.σ[i]? = some x) ∨ (i ∉ vs ∧ S2.σ[i]? = some x) := fun i x h => by
    by_cases hi : i ∈ vs
    · rw [get i hi] at h
      split at h
      · rename_i hl
        cases h
        exact .inl ⟨hi, getD i hl⟩
      · cases h
    · rw [backS_out hi] at h
      exact .inr ⟨hi, h⟩
  have less : Less S1 { S2 with σ := backS S1.σ S2.σ vs } := fun i o h => by
    rcases sl i _ h with ⟨_, h⟩ | ⟨hi, h⟩
    · exact ⟨o, h⟩
    · obtain ⟨o', ho'⟩ := p.less i o (by show (wipeS S2.σ vs)[i]? = _; rw [wipeS_out hi]; exact h)
      exact ⟨o', (wS_own ho').2⟩
  have fr : Fr S1 σ g1 g' H1 H' := ⟨p.fr.ext, fun b o h hg ho => p.fr.keep b o h hg fun i hi => ho i (wS_at hi).2, p.fr.there⟩
  refine ⟨⟨by show (backS S1.σ S2.σ vs).length = _; rw [backS_length]; exact hl2, fun i d h => ?_, fun i o h => ?_, fun i j a h1 h2 => rl1.inj i j a (less.at h1) (less.at h2), p.rel.st, p.rel.gl, p.rel.gn⟩, less, fr⟩
  · rcases sl i _ h with ⟨_, h⟩ | ⟨hi, h⟩
    · obtain ⟨v, e, r⟩ := rl1.val i d h
      exact ⟨v, e, r.stay stay⟩
    · have := p.rel.val i d (by show (wipeS S2.σ vs)[i]? = _; rw [wipeS_out hi]; exact h)
      rw [wipe_out hi] at this
      exact this
  · rcases sl i _ h with ⟨hi, h⟩ | ⟨hi, h⟩
    · obtain ⟨a, e, r, hg⟩ := rl1.own i o h
      obtain ⟨u, hu, _⟩ := r.mut
      have k := p.fr.keep a u hu hg fun j hj => by
        obtain ⟨h1, h2⟩ := wS_at hj
        have := rl1.inj i j a ⟨⟨o, h⟩, e⟩ h2
        exact h1 (this ▸ hi)
      refine ⟨a, e, r.stay stay (k.trans hu.symm), fun hm => ?_⟩
      obtain ⟨l, rfl, hl⟩ := p.fr.ext
      rcases List.mem_append.mp hm with z | z
      · exact hg z
      · rw [hl a z] at hu; cases hu
    · have := p.rel.own i o (by show (wipeS S2.σ vs)[i]? = _; rw [wipeS_out hi]; exact h)
      rw [wipe_out hi] at this
      exact this
/-- the comprehension, by its turns -/
theorem lc_read {mi : M (List Itm)} {tg : Itm → M Unit} {tst : M Bool} {el : M D} {Q : VK}
    (h : tE K (M.bind mi fun ds => fun s => match lcLoop vs tg tst el ds [] s with
      | .ok acc s' => .ok (.new (.lst acc)) { s' with σ := backS s.σ s'.σ vs }
      | .exc x s' => .exc x s'
      | .bad => .bad) σ H Q) : tLc (tI K mi) (tGi K mu vs tg) (tQ K tst) (tD K el) vs σ H Q := by
  obtain ⟨g, S, rl, r, S', hm, q⟩ := h
  obtain ⟨ds, S1, h1, hm1⟩ := bind_ok hm
  refine ⟨g, S, rl, ds, S1, h1, fun J g1 H1 p1 itd L hL => ?_⟩
  have hx : ∃ accF S2, lcLoop vs tg tst el ds [] S1 = .ok accF S2 ∧ r = .new (.lst accF) ∧ S' = { S2 with σ := backS S1.σ S2.σ vs } := by
    revert hm1
    cases e : lcLoop vs tg tst el ds [] S1 with
    | ok accF S2 => intro hm1; simp only [e] at hm1; cases hm1; exact ⟨_, _, rfl, rfl, rfl⟩
    | exc x s' => intro hm1; simp only [e] at hm1; cases hm1
    | bad => intro hm1; simp only [e] at hm1; cases hm1
  obtain ⟨accF, S2, hl, rfl, rfl⟩ := hx
  have rw1 : Rel K g1 (wS vs S1) (wipe σ vs) H1 := p1.rel.wipe
  have nL := rw1.notNew hL
  refine lc_it itd.walk (fun i H => ∃ g S acc, lcLoop vs tg tst el (ds.drop i) acc S = .ok accF S2 ∧ Po K g1 (wS vs S1) (wipe σ vs) H1 g (wS vs S) H ∧ Pend K g (wS vs S) (wipe σ vs) H1 H (.lst acc) L) ?_ ?_ ?_ ?_
  · refine ⟨g1, S1, [], hl, .fresh rw1 hL, ⟨[], upd_same, rfl⟩, hL, nL.1, nL.2⟩
  · rintro i H _ ⟨g2, S3, acc, _, po, _⟩
    exact ⟨g2, po.stay rw1⟩
  · rintro i x H2 H3 hi ⟨g2, S3, acc, hlp, po, pe⟩ y
    obtain ⟨d, hd⟩ : ∃ d, ds[i]? = some d := ⟨ds[i], List.getElem?_eq_getElem hi⟩
    have hdr : ds.drop i = d :: ds.drop (i + 1) := by
      rw [List.drop_eq_getElem_cons hi]
      rw [List.getElem?_eq_getElem hi] at hd
      cases hd; rfl
    rw [hdr] at hlp
    unfold lcLoop at hlp
    obtain ⟨_, S4, e4, hlp1⟩ := bind_ok hlp
    cases e4
    obtain ⟨_, S5, e5, hlp2⟩ := bind_ok hlp1
    obtain ⟨b, S6, e6, hlp3⟩ := bind_ok hlp2
    obtain ⟨pI, rj⟩ := (y g2 d (po.stay rw1) hd).step po.rel
    refine ⟨g2, wS vs S3, d, pI.rel, rj, S5, e5, fun g5 σ5 H5 s5 => ?_⟩
    have hw : wipe σ5 vs = wipe σ vs := wipe_eq (by rw [s5.len, wipe_length]) fun j hj => s5.same j hj
    refine ⟨hw, g5, S5, s5.rel, b, S6, e6, fun g6 H6 p6 => ?_⟩
    have A : St2 K mu vs g1 (wS vs S1) (wipe σ vs) H1 g6 S6 σ5 H6 := (Po.st2 (po.trans pI)).trans (s5.trans p6.st2)
    have pe6 : Pend K g6 S6 σ5 H1 H6 (.lst acc) L := ((pe.step po.rel (mu := mu) (vs := vs) pI.st2).step pI.rel s5).step s5.rel (mu := mu) (vs := vs) p6.st2
    cases b with
    | false =>
      simp only [Bool.false_eq_true, if_false] at hlp3 ⊢
      exact ⟨g6, S6, acc, hlp3, back_turn A hw, pe6.wipe hw⟩
    | true =>
      simp only [if_true] at hlp3 ⊢
      obtain ⟨e, S7, e7, hlp4⟩ := bind_ok hlp3
      refine ⟨g6, S6, p6.rel, e, S7, e7, fun v g7 H7 p7 rv => ?_⟩
      have A7 : St2 K mu vs g1 (wS vs S1) (wipe σ vs) H1 g7 S7 σ5 H7 := A.trans p7.st2
      obtain ⟨⟨ws, hw7, rws⟩, h0, hg7, ho7⟩ := pe6.step p6.rel (mu := mu) (vs := vs) p7.st2
      split at hlp4
      · rename_i hz
        have stay : Stay g7 g7 H7 (upd H7 L (.lst (ws ++ [v]))) := Stay.mut hw7 trivial
        refine ⟨ws, hw7, by rw [rws.length]; exact hz, g7, S7, acc ++ [e], hlp4, ?_, ?_⟩
        · have P := back_turn A7 hw
          have hg : L ∉ g7 := hg7
          have ho : ∀ j, ¬ OwnAt (wS vs S7) (wipe σ vs) j L := fun j hj => by rw [← hw] at hj; exact ho7 j (wS_at hj).2
          refine ⟨P.rel.other hg ho stay, P.less, P.fr.ext, fun b o hb hbg hbo => ?_, fun b hb => ?_⟩
          · rw [upd_ne (fun z => by rw [z, h0] at hb; cases hb)]
            exact P.fr.keep b o hb hbg hbo
          · by_cases e : b = L
            · subst e; rw [upd_same] at hb; cases hb
            · rw [upd_ne e] at hb; exact P.fr.there b hb
        · refine ⟨⟨ws ++ [v], upd_same, (rws.stay stay).append ?_⟩, h0, hg7, fun j hj => ?_⟩
          · unfold RepAll
            refine ⟨v, [], rfl, rv.stay stay, ?_⟩
            unfold RepAll
            rfl
          · rw [← hw] at hj; exact ho7 j (wS_at hj).2
      · cases hlp4
  · rintro H2 ⟨g2, S3, acc, hlp, po, pe⟩
    rw [List.drop_length] at hlp
    unfold lcLoop at hlp
    cases hlp
    have P := lc_back p1.rel po
    refine q (.ref L) g2 H2 (p1.trans P) ?_
    obtain ⟨ro, h0, hg, ho⟩ := pe
    refine ⟨L, rfl, ro, p1.fr.there L hL, hg, fun i hi => ?_⟩
    exact (p1.rel.notNew hL).2 i (P.less.at hi)
end
end NH

set_option Elab.async false
set_option linter.all false
set_option maxRecDepth 100000
set_option maxHeartbeats 1000000
set_option autoImplicit false
namespace NH
open PySem L2
/-- a def's entry -/
structure Ent where
  g0 : Gh
  S0 : Sta
  σ0 : St
  H0 : Hp
/-- a state of a def's body, seen from its entry -/
structure RelF (K : PySem.W.Frag) (mu : List Nat) (E : Ent) (g : Gh) (S : Sta) (σ : St) (H : Hp) : Prop where
  rel : Rel K g S σ H
  ext : ∃ l, g = E.g0 ++ l ∧ ∀ a ∈ l, E.H0 a = none
  keep : ∀ b o, E.H0 b = some o → b ∉ E.g0 → (∀ i, ¬ OwnAt E.S0 E.σ0 i b) → H b = some o
  there : ∀ b, H b = none → E.H0 b = none
  own : ∀ i a, OwnAt S σ i a → (i ∈ mu ∧ OwnAt E.S0 E.σ0 i a) ∨ E.H0 a = none
  smu : ∀ i ∈ mu, σ[i]? = E.σ0[i]?
/-- what is wanted behind a statement -/
def Post (K : PySem.W.Frag) (mu : List Nat) (E : Ent) (g : Gh) (H : Hp) (f : Fl) (S' : Sta) (D : Ends) : Prop :=
  match f with
  | .nx => ∀ g' σ' H', RelF K mu E g' S' σ' H' → Stay g g' H H' → D.nx σ' H'
  | .rt r => ∀ v g' σ' H', RelF K mu E g' S' σ' H' → Stay g g' H H' → RepR K g' S' σ' E.H0 H' r v → D.rt v H'
def tS (K : PySem.W.Frag) (mu : List Nat) (m : M Fl) : TS := fun D σ H => ∃ E g S, RelF K mu E g S σ H ∧ ∃ f S', m S = .ok f S' ∧ Post K mu E g H f S' D
section
variable {K : PySem.W.Frag} {mu ns : List Nat} {E : Ent} {g g' g'' g1 : Gh} {S S' S'' S1 S2 : Sta} {σ σ' σ'' : St} {H H0 H' H'' H1 : Hp} {X : Cx} {f : Fl} {D : Ends}
theorem RelF.step (a : RelF K mu E g S σ H) (s : St2 K mu ns g S σ H g' S' σ' H') : RelF K mu E g' S' σ' H' := by
  obtain ⟨l1, e1, n1⟩ := a.ext
  obtain ⟨l2, e2, n2⟩ := s.fr.ext
  refine ⟨s.rel, ⟨l1 ++ l2, by rw [e2, e1, List.append_assoc], fun x hx => ?_⟩, fun x o h hg ho => ?_, fun x h => a.there x (s.fr.there x h), fun i x h => a.own i x (s.own i x h), fun i hi => (s.smu i hi).trans (a.smu i hi)⟩
  · rcases List.mem_append.mp hx with h | h
    · exact n1 x h
    · exact a.there x (n2 x h)
  · refine s.fr.keep x o (a.keep x o h hg ho) ?_ fun i hi => ?_
    · rw [e1]
      intro hm
      rcases List.mem_append.mp hm with hm | hm
      · exact hg hm
      · rw [n1 x hm] at h; cases h
    · rcases a.own i x hi with ⟨_, h1⟩ | h1
      · exact ho i h1
      · rw [h1] at h; cases h
theorem RelF.po (a : RelF K mu E g S σ H) (s : Po K g S σ H g' S' H') : RelF K mu E g' S' σ H' := a.step (ns := []) s.st2
theorem Post.from (p : Post K mu E g H f S' D) (s : Stay g g1 H H1) : Post K mu E g1 H1 f S' D := by
  cases f with
  | nx => exact fun g' σ' H' r st => p g' σ' H' r (s.trans st)
  | rt x => exact fun v g' σ' H' r st rr => p v g' σ' H' r (s.trans st) rr
/-- a name gets a new object of its own -/
theorem Rel.setNew {i : Nat} {o : O} {a : Addr} (r : Rel K g S σ H) (ho : RepO K g H o a) (hg : a ∉ g) (hn : ∀ j, ¬ OwnAt S σ j a) (hi : i < S.σ.length) :
    Rel K g { S with σ := S.σ.set i (.own o) } (σ.set i (some (.ref a))) H ∧ ∀ j b, OwnAt { S with σ := S.σ.set i (.own o) } (σ.set i (some (.ref a))) j b → (j = i ∧ b = a) ∨ OwnAt S σ j b := by
  have hi' : i < σ.length := by rw [← r.len]; exact hi
  have own : ∀ j b, OwnAt { S with σ := S.σ.set i (.own o) } (σ.set i (some (.ref a))) j b → (j = i ∧ b = a) ∨ (i ≠ j ∧ OwnAt S σ j b) := by
    rintro j b ⟨⟨o', ho'⟩, hs⟩
    by_cases e : i = j
    · subst e
      rw [List.getElem?_set_self hi'] at hs; cases hs
      exact .inl ⟨rfl, rfl⟩
    · have ho' : (S.σ.set i (.own o))[j]? = some (.own o') := ho'
      rw [List.getElem?_set_ne e] at ho' hs
      exact .inr ⟨e, ⟨o', ho'⟩, hs⟩
  refine ⟨⟨by simpa using r.len, fun j d' hj => ?_, fun j o' hj => ?_, fun j l b h1 h2 => ?_, r.st, r.gl, r.gn⟩, fun j b h => (own j b h).imp id And.right⟩
  · have hj : (S.σ.set i (.own o))[j]? = some (.val d') := hj
    by_cases e : i = j
    · subst e
      rw [List.getElem?_set_self hi] at hj; cases hj
    · rw [List.getElem?_set_ne e] at hj ⊢
      exact r.val j d' hj
  · have hj : (S.σ.set i (.own o))[j]? = some (.own o') := hj
    by_cases e : i = j
    · subst e
      rw [List.getElem?_set_self hi] at hj; cases hj
      exact ⟨a, List.getElem?_set_self hi', ho, hg⟩
    · rw [List.getElem?_set_ne e] at hj ⊢
      exact r.own j o' hj
  · rcases own j b h1 with ⟨rfl, rfl⟩ | ⟨_, q1⟩
    · rcases own l _ h2 with ⟨rfl, _⟩ | ⟨_, q2⟩
      · rfl
      · exact (hn l q2).elim
    · rcases own l b h2 with ⟨rfl, rfl⟩ | ⟨_, q2⟩
      · exact (hn j q1).elim
      · exact r.inj j l b q1 q2
theorem RelF.setW {i : Nat} {r : R} {v : V} (a : RelF K mu E g S σ H) (rr : RepR K g S σ H0 H r v) (h0 : ∀ x, H0 x = none → E.H0 x = none) (hs : NH.setW mu i r S = .ok () S') : RelF K mu E g S' (σ.set i (some v)) H := by
  cases r with
  | slot j => cases hs
  | val d =>
    have hs : setSlot mu i (.val d) S = .ok () S' := hs
    exact a.step (ns := [i]) (.setVal a.rel rr hs (by simp))
  | new o =>
    have hs : setSlot mu i (.own o) S = .ok () S' := hs
    obtain ⟨h1, h2, rfl⟩ := setSlot_ok hs
    obtain ⟨p, rfl, ho, hp, hg, hn⟩ := rr
    obtain ⟨r1, r2⟩ := a.rel.setNew ho hg hn h1
    refine ⟨r1, a.ext, a.keep, a.there, fun j b hj => ?_, fun j hj => ?_⟩
    · rcases r2 j b hj with ⟨_, rfl⟩ | h
      · exact .inr (h0 _ hp)
      · exact a.own j b h
    · rw [List.getElem?_set_ne (fun (e : i = j) => h2 (e ▸ hj))]
      exact a.smu j hj
variable {cal : Cal} {k : Kx} {m : M R} {e : Expr} {pos : Pos} {st : Stmt}
theorem sim_ret (he : PE X e (tE X.K m)) : PS X (.Return (some e) pos) (tS X.K mu (M.bind m fun r => fun s => .ok (.rt r) s)) := by
  refine PS.imp (ps_ret he) fun D σ H ⟨E, g, S, rf, f, S', hm, q⟩ => ?_
  obtain ⟨r, S1, h1, h2⟩ := bind_ok hm
  cases h2
  exact ⟨g, S, rf.rel, r, _, h1, fun v g' H' po rr => q v g' σ H' (rf.po po) (po.stay rf.rel) (rr.back rf.there)⟩
theorem sim_ex (he : PE X e (tE X.K m)) (hs : swapsWith e none pos.line X.env = pure false) : PS X (.Expr e pos) (tS X.K mu (M.bind m fun _ => fun s => .ok .nx s)) := by
  refine PS.imp (ps_expr he hs) fun D σ H ⟨E, g, S, rf, f, S', hm, q⟩ => ?_
  obtain ⟨r, S1, h1, h2⟩ := bind_ok hm
  cases h2
  exact ⟨g, S, rf.rel, r, _, h1, fun v g' H' po rr => q g' σ H' (rf.po po) (po.stay rf.rel)⟩
theorem sim_ite {c : Expr} {a b : List Stmt} {ma mb : M Fl} (hc : PT X c (tQ X.K (M.bind m asBl))) (ha : PSs X a (tS X.K mu ma)) (hb : PSs X b (tS X.K mu mb)) :
    PS X (.If c a b pos) (tS X.K mu (M.bind (M.bind m asBl) fun k => if k = true then ma else mb)) := by
  refine PS.imp (ps_if hc ha hb) fun D σ H ⟨E, g, S, rf, f, S', hm, q⟩ => ?_
  obtain ⟨b, S1, h1, h2⟩ := bind_ok hm
  refine ⟨g, S, rf.rel, b, S1, h1, fun g' H' po => ?_⟩
  cases b with
  | true =>
    simp only [if_true] at h2 ⊢
    exact ⟨E, g', S1, rf.po po, f, S', h2, q.from (po.stay rf.rel)⟩
  | false =>
    simp only [Bool.false_eq_true, if_false] at h2 ⊢
    exact ⟨E, g', S1, rf.po po, f, S', h2, q.from (po.stay rf.rel)⟩
theorem sim_nilB : PSs X [] (tS X.K mu (fun s => .ok .nx s)) := by
  refine PSs.imp pss_nil fun D σ H ⟨E, g, S, rf, f, S', hm, q⟩ => ?_
  cases hm
  exact q g σ H rf .refl
theorem sim_consB {rest : List Stmt} {m1 m2 : M Fl} (h1 : PS X st (tS X.K mu m1)) (h2 : PSs X rest (tS X.K mu m2)) : PSs X (st :: rest) (tS X.K mu (M.bind m1 fun f => match f with
    | .nx => m2
    | .rt r => fun s => .ok (.rt r) s)) := by
  refine PSs.imp (pss_cons h1 h2) fun D σ H ⟨E, g, S, rf, f, S', hm, q⟩ => ?_
  obtain ⟨f1, S1, e1, hm1⟩ := bind_ok hm
  refine ⟨E, g, S, rf, f1, S1, e1, ?_⟩
  cases f1 with
  | nx => exact fun g' σ' H' rf' st => ⟨E, g', S1, rf', f, S', hm1, q.from st⟩
  | rt r => cases hm1; exact q
theorem sim_fr (cx : Cxt cal k X) {tg iter : Expr} {body : List Stmt} {mi : M (List Itm)} {mt : Itm → M Unit} {mb : M Fl} (hi : PI X tg iter (tI X.K mi)) (hg : PG X tg (tGi X.K mu ns mt)) (hb : PSs X body (tS X.K mu mb))
    (hs : ∀ x, foldedSetIterable iter X.env x = pure x) : PS X (.For tg iter body [] pos) (tS X.K mu (M.bind mi fun ds => forLoop mt mb ds)) := by
  refine PS.imp (ps_for cx.po cx.calm hi hg hb hs) fun D σ H ⟨E, g, S, rf, f, S', hm, q⟩ => ?_
  obtain ⟨ds, S1, e1, hm1⟩ := bind_ok hm
  refine ⟨g, S, rf.rel, ds, S1, e1, fun J g1 H1 p1 itd => ?_⟩
  have q1 : Post X.K mu E g1 H1 f S' D := q.from (p1.stay rf.rel)
  refine for_it itd.walk (fun i σ H => ∃ g S, RelF X.K mu E g S σ H ∧ Stay g1 g H1 H ∧ forLoop mt mb (ds.drop i) S = .ok f S') ⟨g1, S1, rf.po p1, .refl, hm1⟩ ?_ ?_ ?_
  · rintro i σ2 H2 _ ⟨g2, S2, _, st, _⟩
    exact ⟨g2, st⟩
  · rintro i x σ2 H2 H3 hi ⟨g2, S2, rf2, st2, hl⟩ y
    obtain ⟨d, hd⟩ : ∃ d, ds[i]? = some d := ⟨ds[i], List.getElem?_eq_getElem hi⟩
    have hdr : ds.drop i = d :: ds.drop (i + 1) := by
      rw [List.drop_eq_getElem_cons hi]
      rw [List.getElem?_eq_getElem hi] at hd
      cases hd; rfl
    rw [hdr] at hl
    unfold forLoop at hl
    obtain ⟨_, S4, e4, hl1⟩ := bind_ok hl
    obtain ⟨fl, S5, e5, hl2⟩ := bind_ok hl1
    obtain ⟨pI, rj⟩ := (y g2 d st2 hd).step rf2.rel
    refine ⟨g2, S2, d, pI.rel, rj, S4, e4, fun g4 σ4 H4 s4 => ?_⟩
    have st4 : Stay g1 g4 H1 H4 := (st2.trans (pI.stay rf2.rel)).trans (s4.stay pI.rel)
    refine ⟨E, g4, S4, (rf2.po pI).step s4, fl, S5, e5, ?_⟩
    cases fl with
    | nx => exact fun g' σ' H' rf' st => ⟨g', S5, rf', st4.trans st, hl2⟩
    | rt r => cases hl2; exact fun v g' σ' H' rf' st rr => q1 v g' σ' H' rf' (st4.trans st) rr
  · rintro σ2 H2 ⟨g2, S2, rf2, st2, hl⟩
    rw [List.drop_length] at hl
    unfold forLoop at hl
    cases hl
    exact q1 g2 σ2 H2 rf2 st2
theorem sim_whl (cx : Cxt cal k X) {n : Nat} {c : Expr} {body : List Stmt} {mb : M Fl} (hc : PT X c (tQ X.K (M.bind m asBl))) (hb : PSs X body (tS X.K mu mb)) : PS X (.While c body [] pos) (tS X.K mu (whileLoop (M.bind m asBl) mb n)) := by
  refine PS.imp (ps_while cx.po hc hb) fun D σ H ⟨E, g, S, rf, f, S', hm, q⟩ => ?_
  refine ⟨fun j σ H2 => ∃ g2 S2, RelF X.K mu E g2 S2 σ H2 ∧ Stay g g2 H H2 ∧ whileLoop (M.bind m asBl) mb j S2 = .ok f S', ⟨n, g, S, rf, .refl, hm⟩, ?_⟩
  rintro j σ2 H2 ⟨g2, S2, rf2, st2, hl⟩
  cases j with
  | zero => cases hl
  | succ j =>
    unfold whileLoop at hl
    obtain ⟨b, S3, e3, hl1⟩ := bind_ok hl
    refine ⟨g2, S2, rf2.rel, b, S3, e3, fun g3 H3 p3 => ?_⟩
    have st3 := st2.trans (p3.stay rf2.rel)
    cases b with
    | false =>
      simp only [Bool.false_eq_true, if_false] at hl1 ⊢
      cases hl1
      exact q g3 σ2 H3 (rf2.po p3) st3
    | true =>
      simp only [if_true] at hl1 ⊢
      obtain ⟨fl, S4, e4, hl2⟩ := bind_ok hl1
      refine ⟨fun σ' H' => ∃ g2 S2, RelF X.K mu E g2 S2 σ' H' ∧ Stay g g2 H H' ∧ whileLoop (M.bind m asBl) mb j S2 = .ok f S', fun σ' H' h => ⟨j, Nat.lt_succ_self _, h⟩, E, g3, S3, rf2.po p3, fl, S4, e4, ?_⟩
      cases fl with
      | nx => exact fun g' σ' H' rf' st => ⟨g', S4, rf', st3.trans st, hl2⟩
      | rt r => cases hl2; exact fun v g' σ' H' rf' st rr => q v g' σ' H' rf' (st3.trans st) rr
/-! ### = -/
theorem PS.frzN {t : TS} (h : PS X st t) : PS X st (fun D σ H => t { D with nx := fun σ' H' => D.nx σ' H' ∨ ∃ a xs, H' a = some (.lst xs) ∧ ∀ o, D.nx σ' (upd H' a (.frz o (.lst xs))) } σ H) := by
  refine ⟨fun pins s σ H D I q => ?_⟩
  refine thn (h.run pins s σ H _ I q) fun f s1 q1 => ?_
  cases f with
  | next =>
    obtain ⟨σ', H', I', q'⟩ := q1
    rcases q' with q' | ⟨a, xs, ha, q'⟩
    · exact ⟨σ', H', I', q'⟩
    · obtain ⟨o, I2⟩ := inv_frz I' ha
      exact ⟨σ', _, I2, q' o⟩
  | ret v => exact q1
  | brk => exact q1
  | cont => exact q1
theorem sim_asgW {i : Nat} (h : PS X st (tAsg (tE X.K m) (gName i))) : PS X st (tS X.K mu (M.bind (M.bind m fun r => setW mu i r) fun _ => fun s => .ok .nx s)) := by
  refine PS.imp h fun D σ H ⟨E, g, S, rf, f, S', hm, q⟩ => ?_
  obtain ⟨_, S1, h1, h2⟩ := bind_ok hm
  cases h2
  obtain ⟨r, S2, h3, h4⟩ := bind_ok h1
  refine ⟨g, S, rf.rel, r, S2, h3, fun v g' H' po rr => ?_⟩
  exact q g' _ H' ((rf.po po).setW rr rf.there h4) (po.stay rf.rel)
theorem sim_asgN {i : Nat} (h : PS X st (tAsg (tE X.K m) (gName i))) : PS X st (tS X.K mu (M.bind (M.bind (M.bind m frz) fun d => denT cal mu (.tn i) d) fun _ => fun s => .ok .nx s)) := by
  refine PS.imp (PS.frzN h) fun D σ H ⟨E, g, S, rf, f, S', hm, q⟩ => ?_
  obtain ⟨_, S1, h1, h2⟩ := bind_ok hm
  cases h2
  obtain ⟨d, S2, h3, h4⟩ := bind_ok h1
  obtain ⟨r, S3, h5, h6⟩ := bind_ok h3
  simp only [denT] at h4
  refine ⟨g, S, rf.rel, r, S3, h5, fun v g' H' po rr => ?_⟩
  have := frz_ok (Q := fun v H' => D.nx (σ.set i (some v)) H') po rr h6 fun g2 H2 p2 rep => q g2 _ H2 ((rf.po p2).step (ns := [i]) (.setVal p2.rel rep h4 (by simp))) (p2.stay rf.rel)
  rcases this with h | ⟨a, xs, rfl, ha, h⟩
  · exact .inl h
  · exact .inr ⟨a, xs, ha, h⟩
theorem sim_asgG {tg : Expr} {mt : NH.D → M Unit} (he : PE X e (tE X.K m)) (hg : PG X tg (tT X.K mu ns mt)) (hs : swapsWithSole [tg] e pos.line X.env = pure false) (hw : swappedStores [tg] e X.env = pure none) (h1 : (assignEach [tg] X.env).map (·.2) = [assign tg X.env]) :
    PS X (.Assign [tg] e pos) (tS X.K mu (M.bind (M.bind (M.bind m frz) fun d => mt d) fun _ => fun s => .ok .nx s)) := by
  refine PS.imp (ps_asg (PE.toD he) hg hs hw h1) fun D σ H ⟨E, g, S, rf, f, S', hm, q⟩ => ?_
  obtain ⟨_, S1, h1, h2⟩ := bind_ok hm
  cases h2
  obtain ⟨d, S2, h3, h4⟩ := bind_ok h1
  refine ⟨g, S, rf.rel, d, S2, h3, fun v g' H' po rep => ?_⟩
  exact ⟨g', S2, d, po.rel, rep, _, h4, fun g2 σ2 H2 s2 => q g2 σ2 H2 ((rf.po po).step s2) ((po.stay rf.rel).trans (s2.stay po.rel))⟩
/-! a, b = x, y -/
theorem RepR.setSlot {r r' : R} {v w : V} {i : Nat} (rr : RepR K g S σ H0 H r v) (rl : Rel K g S σ H) (rr' : RepR K g S σ H0 H r' w) (ap : ∀ o, r' = .new o → ∀ o', r = .new o' → v ≠ w) (hns : ∀ j, r' ≠ .slot j) (hns' : ∀ j, r ≠ .slot j) (hs : NH.setW mu i r S = .ok () S') :
    RepR K g S' (σ.set i (some v)) H0 H r' w := by
  cases r' with
  | slot j => exact (hns j rfl).elim
  | val d => exact rr'
  | new o =>
    obtain ⟨a, rfl, ho, h0, hg, hn⟩ := rr'
    refine ⟨a, rfl, ho, h0, hg, fun j hj => ?_⟩
    cases r with
    | slot j => exact (hns' j rfl).elim
    | val d =>
      have hs : NH.setSlot mu i (.val d) S = .ok () S' := hs
      obtain ⟨h1, _, rfl⟩ := setSlot_ok hs
      exact hn j ((rl.setVal rr h1).2 j a hj)
    | new o' =>
      have hs : NH.setSlot mu i (.own o') S = .ok () S' := hs
      obtain ⟨h1, _, rfl⟩ := setSlot_ok hs
      obtain ⟨p, rfl, ho', h0', hg', hn'⟩ := rr
      rcases (rl.setNew ho' hg' hn' h1).2 j a hj with ⟨_, rfl⟩ | h
      · exact ap o rfl o' rfl rfl
      · exact hn j h
theorem setW_noslot {i : Nat} {r : R} (h : NH.setW mu i r S = .ok () S') : ∀ j, r ≠ .slot j := fun j e => by subst e; cases h
theorem RelF.setWs2 {i j : Nat} {r1 r2 : R} {v1 v2 : V} {vs : List V} (a : RelF K mu E g S σ H) (rs : RepRs K g S σ H0 H [r1, r2] vs) (h0 : ∀ x, H0 x = none → E.H0 x = none) (h1 : NH.setW mu i r1 S = .ok () S1) (h2 : NH.setW mu j r2 S1 = .ok () S2) :
    ∃ v1 v2, vs = [v1, v2] ∧ RelF K mu E g S2 ((σ.set i (some v1)).set j (some v2)) H := by
  obtain ⟨v1, t, rfl, rr1, ap, rs⟩ := rs
  obtain ⟨v2, t2, rfl, rr2, _, rs⟩ := rs
  have rs : t2 = [] := rs
  subst rs
  refine ⟨v1, v2, rfl, ?_⟩
  have a1 := a.setW rr1 h0 h1
  refine a1.setW (rr1.setSlot a.rel rr2 (fun o eo o' eo' e => ?_) (fun l e => ?_) (setW_noslot h1) h1) h0 h2
  · exact ap o' eo' 0 o (by simp [eo]) (by simp [e])
  · subst e; cases h2
end
end NH

set_option Elab.async false
set_option linter.all false
set_option maxRecDepth 100000
set_option maxHeartbeats 1000000
set_option autoImplicit false
namespace NH
open PySem L2
/-- the names that a target stores -/
def tns : C → List Nat
  | .tn i => [i]
  | .tt ts => tns ts
  | .cons t ts => tns t ++ tns ts
  | _ => []
structure Sim (cal : Cal) (mu : List Nat) (c : C) : Prop where
  e : ∀ (k : Kx) (X : Cx) (e : Expr), Cxt cal k X → chkE k c e = true → PE X e (tE X.K (denE cal mu c))
  t : ∀ (k : Kx) (X : Cx) (e : Expr), Cxt cal k X → chkE k c e = true → PT X e (tQ X.K (M.bind (denE cal mu c) asBl))
  d : ∀ (k : Kx) (X : Cx) (l : List Expr), Cxt cal k X → chkA k c l = true → PA X l (tDs X.K (denD cal mu c))
  a : ∀ (k : Kx) (X : Cx) (l : List Expr), Cxt cal k X → chkA k c l = true → PA X l (tAs X.K (denA cal mu c))
  ca : ∀ (k : Kx) (X : Cx) (l : List Expr), Cxt cal k X → chkC k c l = true → PA X l (tAr X.K (denC cal mu c))
  b : ∀ (k : Kx) (X : Cx) (l : List Expr) (an : Bool) (pos : Pos), Cxt cal k X → chkA k c l = true → l ≠ [] → PE X (.BoolOp (opB an) l pos) (tE X.K (denB cal mu an c))
  bt : ∀ (k : Kx) (X : Cx) (l : List Expr) (an : Bool) (pos : Pos), Cxt cal k X → chkA k c l = true → l ≠ [] → PW X (.BoolOp (opB an) l pos) (tQ X.K (M.bind (denB cal mu an c) asBl))
  o : ∀ (k : Kx) (X : Cx) (o : Option Expr), Cxt cal k X → chkO k c o = true → PO X o (tOI X.K (denO cal mu c))
  q : ∀ (k : Kx) (X : Cx) (l : List Expr), Cxt cal k X → chkQ k c l = true → PTs X l (tQ X.K (denQ cal mu c))
  i : ∀ (k : Kx) (X : Cx) (tg e : Expr), Cxt cal k X → chkI k c e = true → tgOk c tg = true → PI X tg e (tI X.K (denI cal mu c)) ∧ ∀ x, foldedSetIterable e X.env x = pure x
  g : ∀ (k : Kx) (X : Cx) (e : Expr) (ns : List Nat), Cxt cal k X → chkT k c e = true → (∀ i ∈ tns c, i ∈ ns) → PG X e (tGi X.K mu ns (denG cal mu c))
  tt : ∀ (k : Kx) (X : Cx) (e : Expr) (ns : List Nat), Cxt cal k X → chkT k c e = true → (∀ i ∈ tns c, i ∈ ns) → PG X e (tT X.K mu ns (denT cal mu c))
  ts : ∀ (k : Kx) (X : Cx) (l : List Expr) (ns : List Nat), Cxt cal k X → chkTs k c l = true → (∀ i ∈ tns c, i ∈ ns) → PGs X l (tTs X.K mu ns (denTs cal mu c))
def C.isE : C → Bool
  | .nil | .cons _ _ | .no | .irng _ | .iseq _ | .ienum _ | .izip _ _ | .istr _ | .tn _ | .tw _ | .tt _ | .ti _ _ => false
  | _ => true
section
variable {cal : Cal} {mu : List Nat}
theorem PG.never {X : Cx} {e : Expr} : PG X e (fun _ _ _ _ => False) := ⟨fun _ _ _ _ _ _ _ _ _ h => h.elim⟩
theorem denO_eq {c : C} (hc : c.isE = true) : denO cal mu c = M.bind (denE cal mu c) fun x => M.bind (asInt x) fun i => fun s => .ok (some i) s := by
  cases c <;> simp only [C.isE, Bool.false_eq_true] at hc <;> rw [denO] <;> simp
theorem denQ_eq {c : C} (hc : c.isE = true) : denQ cal mu c = M.bind (denE cal mu c) asBl := by
  cases c <;> simp only [C.isE, Bool.false_eq_true] at hc <;> rw [denQ] <;> simp
theorem isE_no {c : C} (hc : c.isE = true) : isNo c = false := by
  cases c <;> first | rfl | simp [C.isE] at hc
theorem chkO_eq {c : C} (hc : c.isE = true) {k : Kx} {o : Option Expr} (h : chkO k c o = true) : ∃ x, o = some x ∧ chkE k c x = true := by
  unfold chkO at h
  rw [isE_no hc] at h
  cases o with
  | none => cases h
  | some x => exact ⟨x, rfl, by simpa [optB] using h⟩
theorem chkQ_eq {c : C} (hc : c.isE = true) {k : Kx} {l : List Expr} (h : chkQ k c l = true) : ∃ x, l = [x] ∧ chkE k c x = true := by
  unfold chkQ at h
  rw [isE_no hc] at h
  match l with
  | [] => cases h
  | [x] => exact ⟨x, rfl, by simpa [optL] using h⟩
  | _ :: _ :: _ => cases h
theorem Sim.ofE {c : C} (hc : c.isE = true) (he : ∀ (k : Kx) (X : Cx) (e : Expr), Cxt cal k X → chkE k c e = true → PE X e (tE X.K (denE cal mu c)))
    (ht : ∀ (k : Kx) (X : Cx) (e : Expr), Cxt cal k X → chkE k c e = true → PT X e (tQ X.K (M.bind (denE cal mu c) asBl))) : Sim cal mu c where
  e := he
  t := ht
  d := fun k X l cx h => by cases c <;> simp [C.isE] at hc <;> simp [chkA] at h
  a := fun k X l cx h => by cases c <;> simp [C.isE] at hc <;> simp [chkA] at h
  ca := fun k X l cx h => by cases c <;> simp [C.isE] at hc <;> simp [chkC] at h
  b := fun k X l an pos cx h => by cases c <;> simp [C.isE] at hc <;> simp [chkA] at h
  bt := fun k X l an pos cx h => by cases c <;> simp [C.isE] at hc <;> simp [chkA] at h
  o := fun k X o cx h => by
    obtain ⟨x, rfl, hx⟩ := chkO_eq hc h
    rw [denO_eq hc]
    exact sim_someO (he k X x cx hx)
  q := fun k X l cx h => by
    obtain ⟨x, rfl, hx⟩ := chkQ_eq hc h
    rw [denQ_eq hc]
    exact pts_one (ht k X x cx hx)
  i := fun k X tg e cx h => by cases c <;> simp [C.isE] at hc <;> simp [chkI] at h
  g := fun k X e ns cx h => by cases c <;> simp [C.isE] at hc <;> simp [chkT] at h
  tt := fun k X e ns cx h => by cases c <;> simp [C.isE] at hc <;> simp [chkT] at h
  ts := fun k X l ns cx h => by cases c <;> simp [C.isE] at hc <;> simp [chkTs] at h
theorem Sim.ofP {c : C} (hc : c.isE = true) (hp : ∀ (k : Kx) (e : Expr), chkE k c e = true → isPlain e = true) (he : ∀ (k : Kx) (X : Cx) (e : Expr), Cxt cal k X → chkE k c e = true → PE X e (tE X.K (denE cal mu c))) : Sim cal mu c :=
  .ofE hc he fun k X e cx h => PT.ofE (he k X e cx h) (hp k e h)
theorem hu65 {k : Kx} {X : Cx} (cx : Cxt cal k X) : X.A.units + 65 < cLine := by have := cx.hu; omega
theorem hu1 {k : Kx} {X : Cx} (cx : Cxt cal k X) : X.A.units + 1 < cLine := by have := cx.hu; omega
theorem sim_non : Sim cal mu .non := .ofP rfl (fun k e h => by cases e <;> simp [chkE] at h <;> rfl) fun k X e cx h => by
  cases e <;> simp [chkE] at h
  rename_i v _ _
  cases v <;> simp at h
  rw [denE]
  exact sim_const pe_non fun _ _ => rfl
theorem sim_bl (b : Bool) : Sim cal mu (.bl b) := .ofP rfl (fun k e h => by cases e <;> simp [chkE] at h <;> rfl) fun k X e cx h => by
  cases e <;> simp [chkE] at h
  rename_i v _ _
  cases v <;> simp at h
  subst h
  rw [denE]
  exact sim_const pe_bl fun _ _ => rfl
theorem sim_int (i : Int) : Sim cal mu (.int i) := .ofP rfl (fun k e h => by cases e <;> simp [chkE] at h <;> rfl) fun k X e cx h => by
  cases e <;> simp [chkE] at h
  rename_i v _ _
  cases v <;> simp at h
  subst h
  rw [denE]
  exact sim_const pe_int fun _ _ => rfl
theorem sim_str (x : Str) : Sim cal mu (.str x) := .ofP rfl (fun k e h => by cases e <;> simp [chkE] at h <;> rfl) fun k X e cx h => by
  cases e <;> simp [chkE] at h
  rename_i v _ _
  cases v <;> simp at h
  subst h
  rw [denE]
  exact sim_const pe_str fun _ _ => rfl
theorem sim_var' (i : Nat) : Sim cal mu (.var i) := .ofP rfl (fun k e h => by cases e <;> simp [chkE] at h <;> rfl) fun k X e cx h => by
  cases e <;> simp [chkE] at h
  exact sim_var cx h
theorem sim_glo (x : Str) (d : D) : Sim cal mu (.glo x d) := .ofP rfl (fun k e h => by cases e <;> simp [chkE] at h) fun k X e cx h => by
  cases e <;> simp [chkE] at h
theorem sim_tup' {es : C} (s : Sim cal mu es) : Sim cal mu (.tup es) := .ofP rfl (fun k e h => by cases e <;> simp [chkE] at h <;> rfl) fun k X e cx h => by
  cases e <;> simp [chkE] at h
  rw [denE]
  exact sim_tup (s.d k X _ cx h)
theorem sim_lst' {es : C} (s : Sim cal mu es) : Sim cal mu (.lst es) := .ofP rfl (fun k e h => by cases e <;> simp [chkE] at h <;> rfl) fun k X e cx h => by
  cases e <;> simp [chkE] at h
  rw [denE]
  exact sim_lst (s.d k X _ cx h)
theorem sim_dnew' (t : Bool) : Sim cal mu (.dnew t) := .ofP rfl (fun k e h => by cases e <;> simp [chkE] at h <;> rfl) fun k X e cx h => by
  cases e <;> simp [chkE] at h
  rename_i ks vs p
  cases ks <;> cases vs <;> simp at h
  rw [denE]
  exact sim_dnew
/-- each of several -/
def AllSim (cal : Cal) (mu : List Nat) : C → Prop
  | .mw e => Sim cal mu e
  | .cons e es => Sim cal mu e ∧ AllSim cal mu es
  | _ => True
def twos : List V → List (V × V)
  | a :: b :: r => (a, b) :: twos r
  | _ => []
theorem disp_pairs {k : Kx} {X : Cx} (cx : Cxt cal k X) (pos : Pos) : ∀ (keys : List (Option Expr)) (values : List Expr) (ks : C), keys.all (·.isSome) = true → keys.length = values.length → chkA k ks (between keys values) = true → AllSim cal mu ks →
    ∃ trs, PPs X pos keys values trs ∧ ∀ (σ : St) (g : Gh) (S S' : Sta) (H : Hp) (ds : List D) (Q : List (V × V) → Hp → Prop), Rel X.K g S σ H → denD cal mu ks S = .ok ds S' → (∀ vs g' H', Po X.K g S σ H g' S' H' → RepAll X.K g' H' ds vs → Q (twos vs) H') → tPairs trs σ H Q
  | [], values, ks, _, hl, hc, hs => by
    have hv : values = [] := List.eq_nil_of_length_eq_zero hl.symm
    subst hv
    have : ks = .nil := by
      cases ks <;> simp [chkA, between] at hc
      rfl
    subst this
    refine ⟨[], pps_nil, fun σ g S S' H ds Q rl hm q => ?_⟩
    rw [denD] at hm
    cases hm
    exact q [] g H (.refl rl) rfl
  | none :: keys, values, ks, ha, hl, hc, hs => by simp at ha
  | some ke :: keys, [], ks, ha, hl, hc, hs => by simp at hl
  | some ke :: keys, ve :: values, ks, ha, hl, hc, hs => by
    simp only [between] at hc
    obtain ⟨c1, ks1, rfl, h1, hc1⟩ := chkA_cons hc
    obtain ⟨c2, ks2, rfl, h2, hc2⟩ := chkA_cons hc1
    obtain ⟨s1, s2, hs⟩ := hs
    obtain ⟨trs, hp, hq⟩ := disp_pairs cx pos keys values ks2 (by simpa using ha) (by simpa using hl) hc2 hs
    refine ⟨_, pps_cons (PE.toD (s1.e k X ke cx h1)) (PE.toD (s2.e k X ve cx h2)) hp, fun σ g S S' H ds Q rl hm q => ?_⟩
    rw [denD] at hm
    obtain ⟨d1, S1, e1, hm1⟩ := bind_ok hm
    obtain ⟨ds2, S2, e2, hm2⟩ := bind_ok hm1
    cases hm2
    rw [denD] at e2
    obtain ⟨d2, S3, e3, hm3⟩ := bind_ok e2
    obtain ⟨ds3, S4, e4, hm4⟩ := bind_ok hm3
    cases hm4
    refine ⟨g, S, rl, d1, S1, e1, fun v1 g1 H1 p1 r1 => ⟨g1, S1, p1.rel, d2, S3, e3, fun v2 g2 H2 p2 r2 => ?_⟩⟩
    refine hq σ g2 S3 _ H2 ds3 _ p2.rel e4 fun vs g3 H3 p3 rv => q (v1 :: v2 :: vs) g3 H3 ((p1.trans p2).trans p3) ?_
    unfold RepAll
    refine ⟨v1, v2 :: vs, rfl, r1.stay ((p2.trans p3).stay p1.rel), ?_⟩
    unfold RepAll
    exact ⟨v2, vs, rfl, r2.stay (p3.stay p2.rel), rv⟩
theorem disp_rep {K : PySem.W.Frag} {g : Gh} {H : Hp} : ∀ {ds : List D} {vs : List V} {kvs : List (Key × D)}, dispOf ds = some kvs → RepAll K g H ds vs → ∃ kv, twos vs = kv.map (fun p => (kV p.1, p.2)) ∧ RepKV K g H kvs kv
  | [], vs, kvs, h, r => by
    simp [dispOf] at h; subst h
    unfold RepAll at r; subst r
    exact ⟨[], rfl, rfl⟩
  | [d], vs, kvs, h, r => by simp [dispOf] at h
  | d1 :: d2 :: ds, vs, kvs, h, r => by
    simp only [dispOf] at h
    obtain ⟨kk, hk, h⟩ := Option.bind_eq_some_iff.mp h
    obtain ⟨r', hr, rfl⟩ := Option.map_eq_some_iff.mp h
    unfold RepAll at r
    obtain ⟨v1, t, rfl, q1, r⟩ := r
    unfold RepAll at r
    obtain ⟨v2, t, rfl, q2, r⟩ := r
    obtain ⟨kv, e, hh⟩ := disp_rep hr r
    refine ⟨(kk, v2) :: kv, ?_, v2, kv, rfl, q2, hh⟩
    simp only [twos, e, List.map_cons, q1.key hk]
theorem RepKV.merge {K : PySem.W.Frag} {g : Gh} {H : Hp} : ∀ {more : List (Key × D)} {mv : List (Key × V)} {kvs : List (Key × D)} {kv : List (Key × V)}, RepKV K g H more mv → RepKV K g H kvs kv → RepKV K g H (mergeD kvs more) (mergeK kv mv)
  | [], mv, kvs, kv, h, r => by unfold RepKV at h; subst h; exact r
  | p :: more, mv, kvs, kv, h, r => by
    unfold RepKV at h
    obtain ⟨v, t, rfl, q, h⟩ := h
    show RepKV K g H (mergeD (putD kvs p.1 p.2) more) (mergeK (putK kv p.1 v) t)
    exact RepKV.merge h (RepKV.put p.1 q r)
theorem sim_disp (t : Bool) {ks : C} (vs : C) (hs : AllSim cal mu ks) : Sim cal mu (.disp t ks vs) := by
  have inv : ∀ (k : Kx) (e : Expr), chkE k (.disp t ks vs) e = true → ∃ keys values pos, e = .Dict keys values pos ∧ keys.all (·.isSome) = true ∧ keys.length = values.length ∧ keys.length ≤ 15 ∧ keys ≠ [] ∧ chkA k ks (between keys values) = true := by
    intro k e h
    cases e <;> simp only [chkE, Bool.false_eq_true] at h
    simp only [Bool.and_eq_true, decide_eq_true_eq, Bool.not_eq_true'] at h
    obtain ⟨⟨⟨⟨h1, h2⟩, h3⟩, h4⟩, h5⟩ := h
    exact ⟨_, _, _, rfl, h1, h2, h3, by simpa using h4, h5⟩
  refine .ofP rfl (fun k e h => ?_) fun k X e cx h => ?_
  · obtain ⟨_, _, _, rfl, _⟩ := inv k e h
    rfl
  · obtain ⟨keys, values, pos, rfl, h1, h2, h3, h4, h5⟩ := inv k e h
    obtain ⟨trs, hp, hq⟩ := disp_pairs cx pos keys values ks h1 h2 h5 hs
    refine PE.imp (pe_disp hp h1 h2 h4 h3) fun σ H Q ⟨g, S, rl, r, S', hm, q⟩ p hpn => ?_
    rw [denE] at hm
    obtain ⟨ds, S1, e1, hm1⟩ := bind_ok hm
    unfold liftR at hm1
    split at hm1
    case h_2 => cases hm1
    rename_i r' hr
    cases hm1
    unfold dispR at hr
    obtain ⟨kvs, hk, hr⟩ := Option.bind_eq_some_iff.mp hr
    split at hr
    case isFalse => cases hr
    rename_i hle
    cases hr
    have pd : Pend X.K g S σ H (upd H p (.dK [])) (.dk []) p := ⟨⟨[], upd_same, rfl⟩, hpn, (rl.notNew hpn).1, (rl.notNew hpn).2⟩
    refine hq σ g S _ _ ds _ (rl.fresh hpn) e1 fun ws g' H' po rv => ?_
    obtain ⟨⟨kv0, hp0, hk0⟩, h0, hg0, ho0⟩ := pd.step (rl.fresh hpn) (mu := []) (vs := []) po.st2
    have hk0 : kv0 = [] := hk0
    subst hk0
    obtain ⟨kv, e2, hkv⟩ := disp_rep hk rv
    have hlen : kv.length = kvs.length := hkv.length
    refine ⟨hp0, kv, e2, by omega, ?_⟩
    have stay : Stay g' g' H' (upd H' p (.dK (mergeK [] kv))) := Stay.mut hp0 trivial
    have P0 : Po X.K g S σ H g' S' H' := (Po.fresh rl hpn).trans po
    refine q (.ref p) g' _ ⟨P0.rel.other hg0 ho0 stay, P0.less, P0.fr.ext, fun b o hb hbg hbo => ?_, fun b hb => ?_⟩ ⟨p, rfl, ⟨_, upd_same, (RepKV.merge hkv (kvs := []) (kv := []) rfl).stay stay⟩, hpn, hg0, ho0⟩
    · rw [upd_ne (fun z => by rw [z, hpn] at hb; cases hb)]
      exact P0.fr.keep b o hb hbg hbo
    · by_cases e : b = p
      · subst e; rw [upd_same] at hb; cases hb
      · rw [upd_ne e] at hb; exact P0.fr.there b hb
theorem sim_bin' (op : Bop) {a b : C} (sa : Sim cal mu a) (sb : Sim cal mu b) : Sim cal mu (.bin op a b) := .ofP rfl (fun k e h => by cases e <;> simp [chkE] at h <;> rfl) fun k X e cx h => by
  cases e <;> simp [chkE] at h
  obtain ⟨⟨rfl, h1⟩, h2⟩ := h
  rw [denE]
  exact sim_bin op (sa.e k X _ cx h1) (sb.e k X _ cx h2)
theorem sim_neg' {a : C} (sa : Sim cal mu a) : Sim cal mu (.neg a) := .ofP rfl (fun k e h => by
    cases e <;> simp [chkE] at h
    rename_i op x p
    cases op <;> simp at h
    rfl) fun k X e cx h => by
  cases e <;> simp [chkE] at h
  rename_i op x p
  cases op <;> simp at h
  rw [denE]
  exact sim_neg (sa.e k X _ cx h)
theorem sim_cmp' (op : Cop) {a b : C} (sa : Sim cal mu a) (sb : Sim cal mu b) : Sim cal mu (.cmp op a b) := by
  have inv : ∀ (k : Kx) (e : Expr), chkE k (.cmp op a b) e = true → ∃ l r p, e = .Compare l [cop op] [r] p ∧ chkE k a l = true ∧ chkE k b r = true := by
    intro k e h
    cases e <;> simp only [chkE, Bool.false_eq_true] at h
    rename_i l ops rs p
    match ops, rs with
    | [o], [r] =>
      simp only [Bool.and_eq_true, decide_eq_true_eq] at h
      obtain ⟨⟨rfl, h1⟩, h2⟩ := h
      exact ⟨l, r, p, rfl, h1, h2⟩
    | [], _ => simp at h
    | _ :: _ :: _, _ => simp at h
    | [_], [] => simp at h
    | [_], _ :: _ :: _ => simp at h
  refine .ofE rfl (fun k X e cx h => ?_) (fun k X e cx h => ?_)
  · obtain ⟨l, r, p, rfl, h1, h2⟩ := inv k e h
    rw [denE]
    exact sim_cmp (hu65 cx) op (sa.e k X _ cx h1) (sb.e k X _ cx h2) (chkE_noset h2 _)
  · obtain ⟨l, r, p, rfl, h1, h2⟩ := inv k e h
    rw [denE]
    exact sim_cmpT (hu65 cx) op (sa.e k X _ cx h1) (sb.e k X _ cx h2) (chkE_noset h2 _)
theorem sim_cmp2' (op op' : Cop) {a b c : C} (sa : Sim cal mu a) (sb : Sim cal mu b) (sc : Sim cal mu c) : Sim cal mu (.cmp2 op op' a b c) := by
  have inv : ∀ (k : Kx) (e : Expr), chkE k (.cmp2 op op' a b c) e = true → ∃ l m r p, e = .Compare l [cop op, cop op'] [m, r] p ∧ chkE k a l = true ∧ chkE k b m = true ∧ chkE k c r = true := by
    intro k e h
    cases e <;> simp only [chkE, Bool.false_eq_true] at h
    rename_i l ops rs p
    match ops, rs with
    | [o, o'], [m, r] =>
      simp only [Bool.and_eq_true, decide_eq_true_eq] at h
      obtain ⟨⟨⟨⟨rfl, rfl⟩, h1⟩, h2⟩, h3⟩ := h
      exact ⟨l, m, r, p, rfl, h1, h2, h3⟩
    | [], _ => simp at h
    | [_], _ => simp at h
    | _ :: _ :: _ :: _, _ => simp at h
    | [_, _], [] => simp at h
    | [_, _], [_] => simp at h
    | [_, _], _ :: _ :: _ :: _ => simp at h
  have lm : ∀ {k : Kx} {m r : Expr}, chkE k b m = true → chkE k c r = true → lastMarks [cop op, cop op'] [m, r] = false := by
    intro k m r h2 h3
    simp only [lastMarks]
    first | exact chkE_noset h3 _ | simp [chkE_noset h2, chkE_noset h3]
  refine .ofE rfl (fun k X e cx h => ?_) (fun k X e cx h => ?_)
  · obtain ⟨l, m, r, p, rfl, h1, h2, h3⟩ := inv k e h
    rw [denE]
    exact sim_cmp2 (hu65 cx) op op' (sa.e k X _ cx h1) (sb.e k X _ cx h2) (sc.e k X _ cx h3) (lm h2 h3)
  · obtain ⟨l, m, r, p, rfl, h1, h2, h3⟩ := inv k e h
    rw [denE]
    exact sim_cmp2T (hu65 cx) op op' (sa.e k X _ cx h1) (sb.e k X _ cx h2) (sc.e k X _ cx h3) (lm h2 h3)
theorem sim_boo' (an : Bool) {es : C} (s : Sim cal mu es) : Sim cal mu (.boo an es) := by
  have inv : ∀ (k : Kx) (e : Expr), chkE k (.boo an es) e = true → ∃ l p, e = .BoolOp (opB an) l p ∧ chkA k es l = true := by
    intro k e h
    cases e <;> simp [chkE] at h
    rename_i o l p
    obtain ⟨rfl, h⟩ := h
    exact ⟨l, p, rfl, h⟩
  have nn : ∀ {l : List Expr} {k : Kx}, chkA k es l = true → l = [] → es = .nil := by
    intro l k h e
    subst e
    cases es <;> simp [chkA] at h
    rfl
  have nl : es = .nil → ∀ {X : Cx} {e : Expr}, PE X e (tE X.K (denE cal mu (.boo an es))) ∧ PT X e (tQ X.K (M.bind (denE cal mu (.boo an es)) asBl)) := by
    rintro rfl X e
    refine ⟨PE.imp PE.never fun σ H Q ⟨g, S, rl, r, S', hm, q⟩ => ?_, ⟨fun pins s σ H Q I ⟨g, S, rl, r, S', hm, q⟩ => ?_⟩⟩
    · simp only [denE, denB] at hm; cases hm
    · simp only [denE, denB] at hm; cases hm
  refine .ofE rfl (fun k X e cx h => ?_) (fun k X e cx h => ?_)
  · obtain ⟨l, p, rfl, h1⟩ := inv k e h
    by_cases hl : l = []
    · exact (nl (nn h1 hl)).1
    · rw [denE]
      exact s.b k X l an p cx h1 hl
  · obtain ⟨l, p, rfl, h1⟩ := inv k e h
    by_cases hl : l = []
    · exact (nl (nn h1 hl)).2
    · rw [denE]
      exact (s.bt k X l an p cx h1 hl).pt
theorem sim_not' {a : C} (sa : Sim cal mu a) : Sim cal mu (.not a) := by
  have inv : ∀ (k : Kx) (e : Expr), chkE k (.not a) e = true → ∃ l p, e = .UnaryOp .Not l p ∧ chkE k a l = true := by
    intro k e h
    cases e <;> simp [chkE] at h
    rename_i op x p
    cases op <;> simp at h
    exact ⟨x, p, rfl, h⟩
  refine .ofE rfl (fun k X e cx h => ?_) (fun k X e cx h => ?_)
  · obtain ⟨l, p, rfl, h1⟩ := inv k e h
    rw [denE]
    exact sim_not (sa.e k X _ cx h1)
  · obtain ⟨l, p, rfl, h1⟩ := inv k e h
    rw [denE]
    exact sim_notT (sa.t k X _ cx h1)
theorem sim_idx' {a i : C} (sa : Sim cal mu a) (si : Sim cal mu i) : Sim cal mu (.idx a i) := .ofP rfl (fun k e h => by cases e <;> simp [chkE] at h <;> rfl) fun k X e cx h => by
  cases e <;> simp [chkE] at h
  rw [denE]
  exact sim_idx (hu1 cx) (sa.e k X _ cx h.1) (si.e k X _ cx h.2) (chkE_noslice h.2)
theorem sim_slc' {a lo hi : C} (sa : Sim cal mu a) (sl : Sim cal mu lo) (sh : Sim cal mu hi) : Sim cal mu (.slc a lo hi) := .ofP rfl (fun k e h => by cases e <;> simp [chkE] at h <;> rfl) fun k X e cx h => by
  cases e <;> simp only [chkE, Bool.false_eq_true] at h
  rename_i l x p
  cases x <;> first | (simp at h; done) | skip
  rename_i u w st p2
  cases st <;> first | (simp at h; done) | skip
  have h : ((chkE k a l && chkO k lo u) && chkO k hi w) = true := h
  simp only [Bool.and_eq_true] at h
  rw [denE]
  exact sim_slc (sa.e k X _ cx h.1.1) (sl.o k X _ cx h.1.2) (sh.o k X _ cx h.2)
theorem sim_fz {a : C} (sa : Sim cal mu a) : Sim cal mu (.fz a) := by
  refine .ofE rfl (fun k X e cx h => ?_) (fun k X e cx h => ?_)
  · refine PE.imp (PE.toD (sa.e k X e cx (by simpa [chkE] using h))) fun σ H Q ⟨g, S, rl, r, S', hm, q⟩ => ?_
    simp only [denE] at hm
    obtain ⟨d, S1, h1, h2⟩ := bind_ok hm
    cases h2
    exact ⟨g, S, rl, d, _, h1, fun v g' H' po rr => q v g' H' po rr⟩
  · refine PT.imp (sa.t k X e cx (by simpa [chkE] using h)) fun σ H Q ⟨g, S, rl, b, S', hm, q⟩ => ?_
    simp only [denE] at hm
    obtain ⟨r, S1, h1, h2⟩ := bind_ok hm
    obtain ⟨d, S2, h3, h4⟩ := bind_ok h1
    cases h4
    obtain ⟨r0, S3, h5, h6⟩ := bind_ok h3
    have : asBl r0 S3 = .ok b S' := by
      cases r0 with
      | val d' => cases h6; exact h2
      | new o => cases o <;> cases h6; cases h2
      | slot i =>
        simp only [frz] at h6
        split at h6
        · cases h6; cases h2
        · rename_i d' hd
          cases h6
          simp only [asBl] at h2 ⊢
          cases d <;> simp at h2
          obtain ⟨rfl, rfl⟩ := h2
          rw [hd]
        · cases h6
    exact ⟨g, S, rl, b, S', by unfold M.bind; rw [h5]; exact this, q⟩
theorem sim_stt {a : C} (sa : Sim cal mu a) : Sim cal mu (.stt a) := by
  refine .ofE rfl (fun k X e cx h => ?_) (fun k X e cx h => ?_)
  · refine PE.imp (sa.e k X e cx (by simpa [chkE] using h)) fun σ H Q ⟨g, S, rl, r, S', hm, q⟩ => ?_
    simp only [denE] at hm
    obtain ⟨r0, S1, h1, h2⟩ := bind_ok hm
    cases r0 with
    | val d => cases h2
    | slot i => cases h2
    | new o =>
      cases h2
      refine ⟨g, S, rl, _, S1, h1, fun v g' H' po rr => ?_⟩
      obtain ⟨a, rfl, ho, h0, hg, hn⟩ := rr
      have stay : Stay g' (g' ++ [a]) H' H' := ⟨fun n b hb => by rw [List.getElem?_append_left (List.getElem?_eq_some_iff.mp hb).1]; exact hb, fun _ _ h => h, fun _ _ _ h => h⟩
      have last : (g' ++ [a])[S1.st.length]? = some a := by rw [po.rel.gl]; simp
      obtain ⟨u, hu, _⟩ := ho.mut
      have P : Po X.K g S σ H (g' ++ [a]) { S1 with st := S1.st ++ [o] } H' := by
        obtain ⟨l, hl, hln⟩ := po.fr.ext
        refine ⟨⟨po.rel.len, fun i d hi => ?_, fun i o' hi => ?_, po.rel.inj, fun n o' hn' => ?_, by simp [po.rel.gl], ?_⟩, po.less, ⟨l ++ [a], by rw [hl, List.append_assoc], fun x hx => ?_⟩, po.fr.keep, po.fr.there⟩
        · obtain ⟨v, e, r⟩ := po.rel.val i d hi
          exact ⟨v, e, r.stay stay⟩
        · obtain ⟨b, e, r, hb⟩ := po.rel.own i o' hi
          refine ⟨b, e, r.stay stay rfl, fun hm => ?_⟩
          rcases List.mem_append.mp hm with z | z
          · exact hb z
          · have : b = a := by simpa using z
            subst this
            exact hn i ⟨⟨o', hi⟩, e⟩
        · have hn' : (S1.st ++ [o])[n]? = some o' := hn'
          by_cases hlt : n < S1.st.length
          · rw [List.getElem?_append_left hlt] at hn'
            obtain ⟨b, e, r⟩ := po.rel.st n o' hn'
            exact ⟨b, stay.get n b e, r.stay stay rfl⟩
          · have hl2 := (List.getElem?_eq_some_iff.mp hn').1
            simp at hl2
            have : n = S1.st.length := by omega
            subst this
            simp at hn'
            subst hn'
            exact ⟨a, last, ho.stay stay rfl⟩
        · rw [List.nodup_append]
          exact ⟨po.rel.gn, by simp, fun x hx y hy e => by
            have : y = a := by simpa using hy
            subst this; subst e
            exact hg hx⟩
        · rcases List.mem_append.mp hx with z | z
          · exact hln x z
          · have : x = a := by simpa using z
            subst this
            exact h0
      refine q (.ref a) _ H' P ?_
      show Rep X.K (g' ++ [a]) H' (.ref S1.st.length) (.ref a)
      unfold Rep
      exact ⟨a, rfl, last⟩
  · refine ⟨fun pins s σ H Q I ⟨g, S, rl, r, S', hm, q⟩ => ?_⟩
    simp only [denE] at hm
    obtain ⟨r1, S1, h1, h2⟩ := bind_ok hm
    obtain ⟨r0, S2, h3, h4⟩ := bind_ok h1
    cases r0 <;> cases h4
    cases h2
theorem sim_mw {a : C} (sa : Sim cal mu a) : Sim cal mu (.mw a) := by
  refine .ofE rfl (fun k X e cx h => ?_) (fun k X e cx h => ?_)
  · refine PE.imp (sa.e k X e cx (by simpa [chkE] using h)) fun σ H Q ⟨g, S, rl, r, S', hm, q⟩ => ?_
    simp only [denE] at hm
    cases hm
  · refine PT.imp (sa.t k X e cx (by simpa [chkE] using h)) fun σ H Q ⟨g, S, rl, b, S', hm, q⟩ => ?_
    simp only [denE] at hm
    cases hm
/-! ### lists of expressions -/
theorem denB_cons {an : Bool} {e es : C} (h : es ≠ .nil) : denB cal mu an (.cons e es) = M.bind (denE cal mu e) fun x => M.bind (asBl x) fun b => if b = an then denB cal mu an es else ok1 (.val (.bl b)) := by
  cases es <;> first | exact (h rfl).elim | (rw [denB]; done) | (rw [denB]; simp; done)
theorem sim_nil' : Sim cal mu .nil where
  e := fun k X e cx h => by simp [chkE] at h
  t := fun k X e cx h => by simp [chkE] at h
  d := fun k X l cx h => by simp [chkA] at h; subst h; rw [denD]; exact sim_nilD
  a := fun k X l cx h => by simp [chkA] at h; subst h; rw [denA]; exact sim_nilA
  ca := fun k X l cx h => by simp [chkC] at h; subst h; rw [denC]; exact sim_nilC
  b := fun k X l an pos cx h hl => by simp [chkA] at h; exact (hl h).elim
  bt := fun k X l an pos cx h hl => by simp [chkA] at h; exact (hl h).elim
  o := fun k X o cx h => by cases o <;> simp [chkO, optB, isNo, chkE] at h
  q := fun k X l cx h => by
    match l with
    | [] => simp [chkQ, optL, isNo] at h
    | [x] => simp [chkQ, optL, isNo, chkE] at h
    | _ :: _ :: _ => simp [chkQ, optL] at h
  i := fun k X tg e cx h => by simp [chkI] at h
  g := fun k X e ns cx h => by simp [chkT] at h
  tt := fun k X e ns cx h => by simp [chkT] at h
  ts := fun k X l ns cx h hn => by simp [chkTs] at h; subst h; exact sim_tnil
theorem chkC_cons {k : Kx} {e es : C} {l : List Expr} (h : chkC k (.cons e es) l = true) : ∃ x r, l = x :: r ∧ chkC k es r = true ∧ ((∃ i y p, e = .mv i ∧ x = .Name y p ∧ visB k i y = true) ∨ (∃ e', e = .mw e' ∧ chkE k e' x = true) ∨ ((∀ i, e ≠ .mv i) ∧ (∀ e', e ≠ .mw e') ∧ chkE k e x = true)) := by
  cases l with
  | nil => simp [chkC] at h
  | cons x r =>
    refine ⟨x, r, rfl, ?_⟩
    simp only [chkC, Bool.and_eq_true] at h
    refine ⟨h.2, ?_⟩
    have h1 := h.1
    by_cases he : ∃ i, e = .mv i
    · obtain ⟨i, rfl⟩ := he
      refine .inl ⟨i, ?_⟩
      simp only [mvOf] at h1
      cases x <;> simp at h1
      exact ⟨_, _, rfl, rfl, h1⟩
    · by_cases he2 : ∃ e', e = .mw e'
      · obtain ⟨e', rfl⟩ := he2
        exact .inr (.inl ⟨e', rfl, by simpa [mvOf, chkE] using h1⟩)
      · refine .inr (.inr ⟨fun i e' => he ⟨i, e'⟩, fun i e' => he2 ⟨i, e'⟩, ?_⟩)
        cases e <;> first | exact h1 | exact (he ⟨_, rfl⟩).elim | exact (he2 ⟨_, rfl⟩).elim
theorem denC_other {e es : C} (he : ∀ i, e ≠ .mv i) (he2 : ∀ i, e ≠ .mw i) : denC cal mu (.cons e es) = M.bind (M.bind (denE cal mu e) frz) fun d => M.bind (denC cal mu es) fun p => fun s => .ok (.val d :: p.1, p.2) s := by
  cases e <;> first | exact (he _ rfl).elim | exact (he2 _ rfl).elim | (rw [denC]; done) | (rw [denC] <;> (intros; contradiction))
theorem sim_cons' {e es : C} (se : Sim cal mu e) (sw : ∀ e', e = .mw e' → Sim cal mu e') (ss : Sim cal mu es) : Sim cal mu (.cons e es) where
  e := fun k X e cx h => by simp [chkE] at h
  t := fun k X e cx h => by simp [chkE] at h
  d := fun k X l cx h => by
    cases l with
    | nil => simp [chkA] at h
    | cons x r =>
      have h' : chkE k e x = true ∧ chkA k es r = true := by simpa [chkA] using h
      rw [denD]
      exact sim_consD (se.e k X x cx h'.1) (ss.d k X r cx h'.2) (chkE_nostar h'.1 _ _)
  a := fun k X l cx h => by
    cases l with
    | nil => simp [chkA] at h
    | cons x r =>
      have h' : chkE k e x = true ∧ chkA k es r = true := by simpa [chkA] using h
      rw [denA]
      exact sim_consA (se.e k X x cx h'.1) (ss.a k X r cx h'.2) (chkE_nostar h'.1 _ _)
  ca := fun k X l cx h => by
    obtain ⟨x, r, rfl, h2, h3⟩ := chkC_cons h
    rcases h3 with ⟨i, y, p, rfl, rfl, hv⟩ | ⟨e', rfl, h1⟩ | ⟨he, he2, h1⟩
    · obtain ⟨v1, v2, v3, v4⟩ := cx.vis hv
      rw [denC]
      exact sim_consM (pe_var v1 v2 v3 v4) (ss.ca k X r cx h2) rfl
    · rw [denC]
      exact sim_consW ((sw e' rfl).e k X x cx h1) (ss.ca k X r cx h2) (chkE_nostar h1 _ _)
    · rw [denC_other he he2]
      exact sim_consC (se.e k X x cx h1) (ss.ca k X r cx h2) (chkE_nostar h1 _ _)
  b := fun k X l an pos cx h hl => by
    cases l with
    | nil => exact (hl rfl).elim
    | cons x r =>
      have h' : chkE k e x = true ∧ chkA k es r = true := by simpa [chkA] using h
      cases r with
      | nil =>
        have : es = .nil := by
          have h2 := h'.2
          cases es <;> simp [chkA] at h2
          rfl
        subst this
        rw [denB]
        exact sim_boo1 (se.e k X x cx h'.1)
      | cons y r =>
        have hn : es ≠ .nil := fun z => by subst z; simp [chkA] at h'
        rw [denB_cons hn]
        exact sim_boo (se.e k X x cx h'.1) (ss.b k X _ an pos cx h'.2 (by simp))
  bt := fun k X l an pos cx h hl => by
    cases l with
    | nil => exact (hl rfl).elim
    | cons x r =>
      have h' : chkE k e x = true ∧ chkA k es r = true := by simpa [chkA] using h
      cases r with
      | nil =>
        have : es = .nil := by
          have h2 := h'.2
          cases es <;> simp [chkA] at h2
          rfl
        subst this
        rw [denB]
        exact sim_boo1T (se.t k X x cx h'.1)
      | cons y r =>
        have hn : es ≠ .nil := fun z => by subst z; simp [chkA] at h'
        rw [denB_cons hn]
        exact sim_booT (se.t k X x cx h'.1) (ss.bt k X _ an pos cx h'.2 (by simp))
  o := fun k X o cx h => by cases o <;> simp [chkO, optB, isNo, chkE] at h
  q := fun k X l cx h => by
    match l with
    | [] => simp [chkQ, optL, isNo] at h
    | [x] => simp [chkQ, optL, isNo, chkE] at h
    | _ :: _ :: _ => simp [chkQ, optL] at h
  i := fun k X tg e cx h => by simp [chkI] at h
  g := fun k X e ns cx h => by simp [chkT] at h
  tt := fun k X e ns cx h => by simp [chkT] at h
  ts := fun k X l ns cx h hn => by
    cases l with
    | nil => simp [chkTs] at h
    | cons x r =>
      have h' : chkT k e x = true ∧ chkTs k es r = true := by simpa [chkTs] using h
      exact sim_tcons h'.1 (se.tt k X x ns cx h'.1 fun i hi => hn i (by simp [tns, hi])) (ss.ts k X r ns cx h'.2 fun i hi => hn i (by simp [tns, hi]))
theorem sim_no : Sim cal mu .no where
  e := fun k X e cx h => by simp [chkE] at h
  t := fun k X e cx h => by simp [chkE] at h
  d := fun k X l cx h => by simp [chkA] at h
  a := fun k X l cx h => by simp [chkA] at h
  ca := fun k X l cx h => by simp [chkC] at h
  b := fun k X l an pos cx h => by simp [chkA] at h
  bt := fun k X l an pos cx h => by simp [chkA] at h
  o := fun k X o cx h => by
    have h : o = none := by
      cases o with
      | none => rfl
      | some x => simp [chkO, optB, isNo] at h
    subst h
    rw [denO]
    exact sim_noneO
  q := fun k X l cx h => by
    have h : l = [] := by
      match l with
      | [] => rfl
      | [x] => simp [chkQ, optL, isNo] at h
      | _ :: _ :: _ => simp [chkQ, optL] at h
    subst h
    rw [denQ]
    refine ⟨fun pins s σ H Q I ⟨g, S, rl, b, S', hm, q⟩ => pts_nil.run pins s σ H Q I ?_⟩
    cases hm
    exact q g H (.refl rl)
  i := fun k X tg e cx h => by simp [chkI] at h
  g := fun k X e ns cx h => by simp [chkT] at h
  tt := fun k X e ns cx h => by simp [chkT] at h
  ts := fun k X l ns cx h => by simp [chkTs] at h
end
end NH

set_option Elab.async false
set_option linter.all false
set_option maxRecDepth 100000
set_option maxHeartbeats 1000000
set_option autoImplicit false
namespace NH
open PySem L2
section
variable {cal : Cal} {mu : List Nat}
theorem tgtIn_tns {vs : List Nat} : ∀ {t : C}, tgtIn vs t = true → ∀ i ∈ tns t, i ∈ vs := by
  intro t
  induction t with
  | tn j => intro h i hi; simp [tns] at hi; subst hi; simpa [tgtIn] using h
  | tt ts ih => intro h i hi; exact ih (by simpa [tgtIn] using h) i (by simpa [tns] using hi)
  | nil => intro h i hi; simp [tns] at hi
  | cons t ts iht ihs =>
    intro h i hi
    have h' : tgtIn vs t = true ∧ tgtIn vs ts = true := by simpa [tgtIn] using h
    have hi' : i ∈ tns t ∨ i ∈ tns ts := by simpa [tns] using hi
    rcases hi' with z | z
    · exact iht h'.1 i z
    · exact ihs h'.2 i z
  | _ => intro h; simp [tgtIn] at h
theorem ownOf_snd (k : Kx) (vs : List Nat) : (ownOf k vs).map (·.2) = vs := by
  unfold ownOf
  rw [List.map_map]
  exact List.map_id' vs
theorem lc_inv {k : Kx} {vs : List Nat} {t it ifs x : C} {e : Expr} (h : chkE k (.lc vs t it ifs x) e = true) :
    ∃ elt tg iter l scope pos, e = .ListComp elt [⟨tg, iter, l, 0⟩] scope pos ∧ blkC k.N k.sc scope (ownOf k vs) = true ∧ tgtIn vs t = true ∧ tgOk it tg = true ∧ chkI k it iter = true ∧ chkT (blkK k scope) t tg = true ∧ chkQ (blkK k scope) ifs l = true ∧ chkE (blkK k scope) x elt = true := by
  cases e <;> simp only [chkE, Bool.false_eq_true] at h
  rename_i elt gs scope pos
  match gs with
  | [] => simp at h
  | _ :: _ :: _ => simp at h
  | [⟨tg, iter, l, n⟩] =>
    by_cases hn : n = 0
    · subst hn
      simp only [Bool.and_eq_true] at h
      obtain ⟨⟨⟨⟨⟨⟨h1, h2⟩, h3⟩, h4⟩, h5⟩, h6⟩, h7⟩ := h
      exact ⟨elt, tg, iter, l, scope, pos, rfl, h1, h2, h3, h4, h5, h6, h7⟩
    · exfalso
      revert h
      split
      · rename_i h
        simp at h
        exact (hn h.2.1.2.2.2).elim
      · simp
theorem sim_lc (vs : List Nat) {t it ifs x : C} (st : Sim cal mu t) (si : Sim cal mu it) (sq : Sim cal mu ifs) (sx : Sim cal mu x) : Sim cal mu (.lc vs t it ifs x) := by
  refine .ofP rfl (fun k e h => ?_) fun k X e cx h => ?_
  · obtain ⟨_, _, _, _, _, _, rfl, _⟩ := lc_inv h
    rfl
  · obtain ⟨elt, tg, iter, l, scope, pos, rfl, h1, h2, h3, h4, h5, h6, h7⟩ := lc_inv h
    have ok : BlkOk X.N X.env.scope scope (ownOf k vs) := by rw [cx.N, cx.sc]; exact blkOk_by h1
    obtain ⟨pi, fs⟩ := si.i k X tg iter cx h4 h3
    have P := pe_lc (pos := pos) (g := tGi X.K mu vs (denG cal mu t)) (tt := tQ X.K (denQ cal mu ifs)) (te := tD X.K (M.bind (denE cal mu x) frz)) (elt := elt) cx.calm cx.nd' pi ok (fun s H C cl fp => st.g (blkK k scope) _ tg vs (cx.blk scope s H C cl fp) h5 (tgtIn_tns h2)) (fun s H C cl fp => sq.q (blkK k scope) _ l (cx.blk scope s H C cl fp) h6)
      (fun s H C cl fp => PE.toD (sx.e (blkK k scope) _ elt (cx.blk scope s H C cl fp) h7)) fs
    rw [ownOf_snd] at P
    refine PE.imp P fun σ H Q h => ?_
    rw [denE] at h
    exact lc_read h
theorem sim_call' (f : Str) {es : C} (s : Sim cal mu es) : Sim cal mu (.call f es) := by
  have inv : ∀ (k : Kx) (e : Expr), chkE k (.call f es) e = true → ∃ x r p pos, e = .Call (.Name f p) (x :: r) [] pos ∧ glB k f = true ∧ chkC k es (x :: r) = true := by
    intro k e h
    cases e <;> simp only [chkE, Bool.false_eq_true] at h
    rename_i fn l kw pos
    cases fn <;> first | (simp at h; done) | skip
    cases kw <;> first | (simp at h; done) | skip
    rename_i y p
    simp only [Bool.and_eq_true, decide_eq_true_eq, Bool.not_eq_true'] at h
    obtain ⟨⟨⟨rfl, h1⟩, h2⟩, h3⟩ := h
    cases l with
    | nil => simp at h2
    | cons x r => exact ⟨x, r, p, pos, rfl, h1, h3⟩
  have star : ∀ {k : Kx} {c : C} {l : List Expr} (env : Env), chkC k c l = true → (∀ x r, l = x :: r → starEach l env = (false, eval x env) :: starEach r env) ∧ ∀ pos, (backTo pos (starEach l env)).any (·.1) = false := by
    intro k c
    induction c with
    | nil => intro l env h; simp [chkC] at h; subst h; exact ⟨fun _ _ z => by simp at z, fun _ => rfl⟩
    | cons e es _ ih =>
      intro l env h
      obtain ⟨x, r, rfl, h2, h3⟩ := chkC_cons h
      have hx : starEach (x :: r) env = (false, eval x env) :: starEach r env := by
        rcases h3 with ⟨i, y, p, rfl, rfl, _⟩ | ⟨_, _, h1⟩ | ⟨_, _, h1⟩
        · rfl
        · exact chkE_nostar h1 _ _
        · exact chkE_nostar h1 _ _
      refine ⟨fun x' r' z => by cases z; exact hx, fun pos => ?_⟩
      rw [hx]
      have := (ih env h2).2 pos
      unfold backTo at this ⊢
      simpa using this
    | _ => intro l env h; simp [chkC] at h
  refine .ofP rfl (fun k e h => ?_) fun k X e cx h => ?_
  · obtain ⟨_, _, _, _, rfl, _⟩ := inv k e h
    rfl
  · obtain ⟨x, r, p, pos, rfl, h1, h2⟩ := inv k e h
    rw [denE]
    have h3 := (star X.env h2).1 x r rfl
    have h4 : (backTo pos (starEach r X.env)).any (·.1) = false := by
      cases es <;> first | (simp [chkC] at h2; done) | skip
      obtain ⟨x', r', e', h5, _⟩ := chkC_cons h2
      cases e'
      exact (star X.env h5).2 pos
    exact sim_call cx h1 (s.ca k X _ cx h2) h3 h4
theorem sim_mth' (m : Mth) {o es : C} (so : Sim cal mu o) (ss : Sim cal mu es) : Sim cal mu (.mth m o es) := by
  have inv : ∀ (k : Kx) (e : Expr), chkE k (.mth m o es) e = true → ∃ o' ap l cp, e = .Call (.Attribute o' m.name ap) l [] cp ∧ (ap.endLine == cp.line) = true ∧ l.length = m.args ∧ noCall0 o' = true ∧ chkE k o o' = true ∧ chkA k es l = true := by
    intro k e h
    cases e <;> simp only [chkE, Bool.false_eq_true] at h
    rename_i fn l kw pos
    cases fn <;> first | (simp at h; done) | skip
    cases kw <;> first | (simp at h; done) | skip
    rename_i o' y p
    simp only [Bool.and_eq_true, decide_eq_true_eq] at h
    obtain ⟨⟨⟨⟨⟨rfl, h1⟩, h2⟩, h3⟩, h4⟩, h5⟩ := h
    exact ⟨o', p, l, pos, rfl, h1, h2, h3, h4, h5⟩
  refine .ofP rfl (fun k e h => ?_) fun k X e cx h => ?_
  · obtain ⟨_, _, _, _, rfl, _⟩ := inv k e h
    rfl
  · obtain ⟨o', ap, l, cp, rfl, h1, h2, h3, h4, h5⟩ := inv k e h
    rw [denE]
    exact sim_mth cx m h1 h2 h3 (so.e k X _ cx h4) h5 (ss.d k X _ cx h5)
end
end NH

set_option Elab.async false
set_option linter.all false
set_option maxRecDepth 100000
set_option maxHeartbeats 1000000
set_option autoImplicit false
namespace NH
open PySem L2
section
variable {cal : Cal} {mu : List Nat}
theorem denA_one {a : C} : denA cal mu (.cons a .nil) = M.bind (denE cal mu a) fun d => M.bind (fun s => Out.ok ([] : List R) s) fun ds => fun s => .ok (d :: ds) s := by
  rw [denA, denA]
theorem chkA_one {k : Kx} {es : C} {a : Expr} (h : chkA k es [a] = true) : ∃ c, es = .cons c .nil ∧ chkE k c a = true := by
  obtain ⟨c, cs, rfl, h1, h2⟩ := chkA_cons h
  cases cs <;> simp [chkA] at h2
  exact ⟨c, rfl, h1⟩
theorem sim_blt' (f : Blt) {es : C} (s : Sim cal mu es) (s1 : ∀ a, es = .cons a .nil → Sim cal mu a) : Sim cal mu (.blt f es) := by
  have pl : ∀ (k : Kx) (e : Expr), chkE k (.blt f es) e = true → isPlain e = true := by
    intro k e h
    cases e <;> simp only [chkE, Bool.false_eq_true] at h
    rfl
  refine .ofP rfl pl fun k X e cx h => ?_
  cases hb : bltV f with
  | some xu =>
    obtain ⟨y, u⟩ := xu
    cases e <;> simp only [chkE, Bool.false_eq_true] at h
    rename_i fn l kw pos
    cases fn <;> first | (simp at h; done) | skip
    cases kw <;> first | (simp at h; done) | skip
    rename_i x p
    simp only [hb, Bool.and_eq_true, decide_eq_true_eq, Bool.not_eq_true'] at h
    obtain ⟨⟨⟨rfl, h1⟩, h2⟩, h3⟩ := h
    cases l with
    | nil => simp at h3
    | cons a r =>
      obtain ⟨c1, cs, rfl, h4, h5⟩ := chkA_cons h2
      rw [denE]
      exact sim_blt cx hb h1 (s.a k X _ cx h2) (chkE_nostar h4 _ _) (chkA_plain h5 _ _)
  | none =>
    cases e <;> simp only [chkE, Bool.false_eq_true] at h
    rename_i fn l kw pos
    cases fn <;> first | (simp at h; done) | skip
    cases kw <;> first | (simp at h; done) | skip
    simp only [hb] at h
    rw [denE]
    cases f <;> first | (simp [bltV] at hb; done) | (simp at h; done) | skip
    · -- list(range(..))
      simp only at h
      split at h
      · simp only [Bool.and_eq_true, decide_eq_true_eq] at h
        obtain ⟨⟨⟨⟨rfl, h1⟩, rfl⟩, h2⟩, h30⟩ := h
        obtain ⟨a, rfl, h3⟩ := chkA_one h30
        have sa := s1 a rfl
        rw [denA_one]
        exact sim_lrange cx h1 h2 (sa.e k X _ cx h3) (chkE_nostar h3 _ _)
      · cases h
    · simp only at h
      split at h
      · simp only [Bool.and_eq_true, decide_eq_true_eq] at h
        obtain ⟨⟨⟨⟨rfl, h1⟩, rfl⟩, h2⟩, h30⟩ := h
        obtain ⟨a, rfl, h3⟩ := chkA_one h30
        have sa := s1 a rfl
        rw [denA_one]
        exact sim_trange cx h1 h2 (sa.e k X _ cx h3) (chkE_nostar h3 _ _)
      · cases h
    · simp only at h
      split at h
      · simp only [Bool.and_eq_true, decide_eq_true_eq] at h
        obtain ⟨⟨⟨⟨rfl, h1⟩, rfl⟩, h2⟩, h30⟩ := h
        obtain ⟨a, rfl, h3⟩ := chkA_one h30
        have sa := s1 a rfl
        rw [denA_one]
        exact sim_isi cx (n := "tuple") (fun c => rfl) (fun t ht => (kit_tab t ht).1) (by decide +kernel) (by decide +kernel) h1 h2 (sa.e k X _ cx h3) (fun es => chkE_nostar h3 _ _)
      · cases h
    · simp only at h
      split at h
      · simp only [Bool.and_eq_true, decide_eq_true_eq] at h
        obtain ⟨⟨⟨⟨rfl, h1⟩, rfl⟩, h2⟩, h30⟩ := h
        obtain ⟨a, rfl, h3⟩ := chkA_one h30
        have sa := s1 a rfl
        rw [denA_one]
        exact sim_isi cx (n := "list") (fun c => rfl) (fun t ht => (kit_tab t ht).2.1) (by decide +kernel) (by decide +kernel) h1 h2 (sa.e k X _ cx h3) (fun es => chkE_nostar h3 _ _)
      · cases h
    · simp only at h
      split at h
      · simp only [Bool.and_eq_true, decide_eq_true_eq] at h
        obtain ⟨⟨⟨⟨rfl, h1⟩, rfl⟩, h2⟩, h30⟩ := h
        obtain ⟨a, rfl, h3⟩ := chkA_one h30
        have sa := s1 a rfl
        rw [denA_one]
        exact sim_isi cx (n := "bool") (fun c => rfl) (fun t ht => (kit_tab t ht).2.2) (by decide +kernel) (by decide +kernel) h1 h2 (sa.e k X _ cx h3) (fun es => chkE_nostar h3 _ _)
      · cases h
    · simp only at h
      split at h
      · simp only [Bool.and_eq_true, decide_eq_true_eq] at h
        obtain ⟨⟨⟨⟨⟨⟨rfl, h1⟩, rfl⟩, h2⟩, rfl⟩, h3⟩, h40⟩ := h
        obtain ⟨a, rfl, h4⟩ := chkA_one h40
        have sa := s1 a rfl
        rw [denA_one]
        exact sim_islt cx h1 h2 h3 (sa.e k X _ cx h4) (fun es => chkE_nostar h4 _ _)
      · cases h
/-- what is walked -/
theorem Sim.ofI {c : C} (hE : ∀ (k : Kx) (e : Expr), chkE k c e = false) (hA : ∀ (k : Kx) (l : List Expr), chkA k c l = false) (hC : ∀ (k : Kx) (l : List Expr), chkC k c l = false) (hO : ∀ (k : Kx) (o : Option Expr), chkO k c o = false) (hQ : ∀ (k : Kx) (l : List Expr), chkQ k c l = false)
    (hT : ∀ (k : Kx) (e : Expr), chkT k c e = false) (hS : ∀ (k : Kx) (l : List Expr), chkTs k c l = false)
    (hi : ∀ (k : Kx) (X : Cx) (tg e : Expr), Cxt cal k X → chkI k c e = true → tgOk c tg = true → PI X tg e (tI X.K (denI cal mu c)) ∧ ∀ x, foldedSetIterable e X.env x = pure x) : Sim cal mu c where
  e := fun k X e cx h => by rw [hE] at h; cases h
  t := fun k X e cx h => by rw [hE] at h; cases h
  d := fun k X l cx h => by rw [hA] at h; cases h
  a := fun k X l cx h => by rw [hA] at h; cases h
  ca := fun k X l cx h => by rw [hC] at h; cases h
  b := fun k X l an pos cx h => by rw [hA] at h; cases h
  bt := fun k X l an pos cx h => by rw [hA] at h; cases h
  o := fun k X o cx h => by rw [hO] at h; cases h
  q := fun k X l cx h => by rw [hQ] at h; cases h
  i := hi
  g := fun k X e ns cx h => by rw [hT] at h; cases h
  tt := fun k X e ns cx h => by rw [hT] at h; cases h
  ts := fun k X l ns cx h => by rw [hS] at h; cases h
theorem Sim.ofT {c : C} (hE : ∀ (k : Kx) (e : Expr), chkE k c e = false) (hA : ∀ (k : Kx) (l : List Expr), chkA k c l = false) (hC : ∀ (k : Kx) (l : List Expr), chkC k c l = false) (hO : ∀ (k : Kx) (o : Option Expr), chkO k c o = false) (hQ : ∀ (k : Kx) (l : List Expr), chkQ k c l = false)
    (hI : ∀ (k : Kx) (e : Expr), chkI k c e = false) (hS : ∀ (k : Kx) (l : List Expr), chkTs k c l = false)
    (hg : ∀ (k : Kx) (X : Cx) (e : Expr) (ns : List Nat), Cxt cal k X → chkT k c e = true → (∀ i ∈ tns c, i ∈ ns) → PG X e (tGi X.K mu ns (denG cal mu c)))
    (ht : ∀ (k : Kx) (X : Cx) (e : Expr) (ns : List Nat), Cxt cal k X → chkT k c e = true → (∀ i ∈ tns c, i ∈ ns) → PG X e (tT X.K mu ns (denT cal mu c))) : Sim cal mu c where
  e := fun k X e cx h => by rw [hE] at h; cases h
  t := fun k X e cx h => by rw [hE] at h; cases h
  d := fun k X l cx h => by rw [hA] at h; cases h
  a := fun k X l cx h => by rw [hA] at h; cases h
  ca := fun k X l cx h => by rw [hC] at h; cases h
  b := fun k X l an pos cx h => by rw [hA] at h; cases h
  bt := fun k X l an pos cx h => by rw [hA] at h; cases h
  o := fun k X o cx h => by rw [hO] at h; cases h
  q := fun k X l cx h => by rw [hQ] at h; cases h
  i := fun k X tg e cx h => by rw [hI] at h; cases h
  g := hg
  tt := ht
  ts := fun k X l ns cx h => by rw [hS] at h; cases h
theorem isNo_ne {c : C} (hn : c ≠ .no) : isNo c = false := by
  cases c <;> first | rfl | exact (hn rfl).elim
theorem cO_no {c : C} (hn : c ≠ .no) (hE : ∀ (k : Kx) (e : Expr), chkE k c e = false) (k : Kx) (o : Option Expr) : chkO k c o = false := by
  unfold chkO
  rw [isNo_ne hn]
  cases o with
  | none => rfl
  | some x => simp [optB, hE k x]
theorem cQ_no {c : C} (hn : c ≠ .no) (hE : ∀ (k : Kx) (e : Expr), chkE k c e = false) (k : Kx) (l : List Expr) : chkQ k c l = false := by
  unfold chkQ
  rw [isNo_ne hn]
  match l with
  | [] => rfl
  | [x] => simp [optL, hE k x]
  | _ :: _ :: _ => rfl
theorem isTup_inv {e : Expr} (h : isTupE e = true) : ∃ l n p, e = .Tuple l n p := by
  cases e <;> simp [isTupE] at h
  exact ⟨_, _, _, rfl⟩
theorem sim_irng' {es : C} (s : Sim cal mu es) : Sim cal mu (.irng es) := by
  have hE : ∀ (k : Kx) (e : Expr), chkE k (.irng es) e = false := fun k e => by simp only [chkE]
  refine .ofI hE (fun k l => by simp only [chkA]) (fun k l => by simp only [chkC]) (cO_no (by simp) hE) (cQ_no (by simp) hE) (fun k l => by simp only [chkT]) (fun k l => by simp only [chkTs]) fun k X tg e cx h _ => ?_
  cases e <;> simp only [chkI, Bool.false_eq_true] at h
  rename_i fn l kw pos
  cases fn <;> first | (simp at h; done) | skip
  cases kw <;> first | (simp at h; done) | skip
  rename_i x p
  simp only [Bool.and_eq_true, decide_eq_true_eq, Bool.or_eq_true] at h
  obtain ⟨⟨⟨rfl, h1⟩, h2⟩, h3⟩ := h
  rw [denI]
  exact ⟨sim_irng cx h1 h2 h3 (s.d k X _ cx h3), fun _ => rfl⟩
theorem sim_iseq' {a : C} (s : Sim cal mu a) : Sim cal mu (.iseq a) := by
  have hE : ∀ (k : Kx) (e : Expr), chkE k (.iseq a) e = false := fun k e => by simp only [chkE]
  refine .ofI hE (fun k l => by simp only [chkA]) (fun k l => by simp only [chkC]) (cO_no (by simp) hE) (cQ_no (by simp) hE) (fun k l => by simp only [chkT]) (fun k l => by simp only [chkTs]) fun k X tg e cx h _ => ?_
  simp only [chkI] at h
  rw [denI]
  exact ⟨sim_iseq (s.e k X _ cx h), chkE_nofold h X.env⟩
theorem sim_istr' {a : C} (s : Sim cal mu a) : Sim cal mu (.istr a) := by
  have hE : ∀ (k : Kx) (e : Expr), chkE k (.istr a) e = false := fun k e => by simp only [chkE]
  refine .ofI hE (fun k l => by simp only [chkA]) (fun k l => by simp only [chkC]) (cO_no (by simp) hE) (cQ_no (by simp) hE) (fun k l => by simp only [chkT]) (fun k l => by simp only [chkTs]) fun k X tg e cx h _ => ?_
  simp only [chkI] at h
  rw [denI]
  exact ⟨sim_istr (s.e k X _ cx h), chkE_nofold h X.env⟩
theorem sim_ienum' {a : C} (s : Sim cal mu a) : Sim cal mu (.ienum a) := by
  have hE : ∀ (k : Kx) (e : Expr), chkE k (.ienum a) e = false := fun k e => by simp only [chkE]
  refine .ofI hE (fun k l => by simp only [chkA]) (fun k l => by simp only [chkC]) (cO_no (by simp) hE) (cQ_no (by simp) hE) (fun k l => by simp only [chkT]) (fun k l => by simp only [chkTs]) fun k X tg e cx h htg => ?_
  cases e <;> simp only [chkI, Bool.false_eq_true] at h
  rename_i fn l kw pos
  cases fn <;> first | (simp at h; done) | skip
  match l, h with
  | [], h => simp at h
  | _ :: _ :: _, h => simp at h
  | [y], h =>
  cases kw <;> first | (simp at h; done) | skip
  rename_i x p
  simp only [Bool.and_eq_true, decide_eq_true_eq] at h
  obtain ⟨⟨rfl, h1⟩, h2⟩ := h
  obtain ⟨tl, tn, tp, rfl⟩ := isTup_inv htg
  rw [denI]
  refine ⟨sim_ienum cx h1 (chkE_nostar h2 _ _) ?_, fun _ => rfl⟩
  exact sim_consD (s.e k X _ cx h2) sim_nilD (chkE_nostar h2 _ _)
theorem sim_izip' {a b : C} (sa : Sim cal mu a) (sb : Sim cal mu b) : Sim cal mu (.izip a b) := by
  have hE : ∀ (k : Kx) (e : Expr), chkE k (.izip a b) e = false := fun k e => by simp only [chkE]
  refine .ofI hE (fun k l => by simp only [chkA]) (fun k l => by simp only [chkC]) (cO_no (by simp) hE) (cQ_no (by simp) hE) (fun k l => by simp only [chkT]) (fun k l => by simp only [chkTs]) fun k X tg e cx h htg => ?_
  cases e <;> simp only [chkI, Bool.false_eq_true] at h
  rename_i fn l kw pos
  cases fn <;> first | (simp at h; done) | skip
  match l, h with
  | [], h => simp at h
  | [_], h => simp at h
  | _ :: _ :: _ :: _, h => simp at h
  | [y, z], h =>
  cases kw <;> first | (simp at h; done) | skip
  rename_i x p
  simp only [Bool.and_eq_true, decide_eq_true_eq] at h
  obtain ⟨⟨⟨rfl, h1⟩, h2⟩, h3⟩ := h
  obtain ⟨tl, tn, tp, rfl⟩ := isTup_inv htg
  rw [denI]
  refine ⟨sim_izip cx h1 (chkE_nostar h2 _ _) ?_ ?_, fun _ => rfl⟩
  · rw [chkE_nostar h3]; rfl
  · exact sim_consD (sa.e k X _ cx h2) (sim_consD (sb.e k X _ cx h3) sim_nilD (chkE_nostar h3 _ _)) (chkE_nostar h2 _ _)
theorem sim_tn' (i : Nat) : Sim cal mu (.tn i) := by
  have hE : ∀ (k : Kx) (e : Expr), chkE k (.tn i) e = false := fun k e => by simp only [chkE]
  refine .ofT hE (fun k l => by simp only [chkA]) (fun k l => by simp only [chkC]) (cO_no (by simp) hE) (cQ_no (by simp) hE) (fun k l => by simp only [chkI]) (fun k l => by simp only [chkTs]) (fun k X e ns cx h hn => ?_) (fun k X e ns cx h hn => ?_)
  · cases e <;> simp only [chkT, Bool.false_eq_true] at h
    exact sim_tnG cx h (hn i (by simp [tns]))
  · cases e <;> simp only [chkT, Bool.false_eq_true] at h
    exact sim_tn cx h (hn i (by simp [tns]))
theorem sim_tw' (i : Nat) : Sim cal mu (.tw i) := by
  have hE : ∀ (k : Kx) (e : Expr), chkE k (.tw i) e = false := fun k e => by simp only [chkE]
  refine .ofT hE (fun k l => by simp only [chkA]) (fun k l => by simp only [chkC]) (cO_no (by simp) hE) (cQ_no (by simp) hE) (fun k l => by simp only [chkI]) (fun k l => by simp only [chkTs]) (fun k X e ns cx h hn => ?_) (fun k X e ns cx h hn => ?_)
  · refine PG.imp PG.never fun v σ H Q ⟨g, S, it, rl, rj, S', hm, q⟩ => ?_
    simp only [denG] at hm; cases hm
  · refine PG.imp PG.never fun v σ H Q ⟨g, S, it, rl, rj, S', hm, q⟩ => ?_
    simp only [denT] at hm; cases hm
theorem sim_tt' {ts : C} (s : Sim cal mu ts) : Sim cal mu (.tt ts) := by
  have hE : ∀ (k : Kx) (e : Expr), chkE k (.tt ts) e = false := fun k e => by simp only [chkE]
  refine .ofT hE (fun k l => by simp only [chkA]) (fun k l => by simp only [chkC]) (cO_no (by simp) hE) (cQ_no (by simp) hE) (fun k l => by simp only [chkI]) (fun k l => by simp only [chkTs]) (fun k X e ns cx h hn => ?_) (fun k X e ns cx h hn => ?_)
  · cases e <;> simp only [chkT, Bool.false_eq_true] at h
    exact sim_ttG cx h (s.ts k X _ ns cx h fun i hi => hn i (by simpa [tns] using hi))
  · cases e <;> simp only [chkT, Bool.false_eq_true] at h
    exact sim_tt cx h (s.ts k X _ ns cx h fun i hi => hn i (by simpa [tns] using hi))
theorem sim_ti' {o i : C} (so : Sim cal mu o) (si : Sim cal mu i) : Sim cal mu (.ti o i) := by
  have hE : ∀ (k : Kx) (e : Expr), chkE k (.ti o i) e = false := fun k e => by simp only [chkE]
  refine .ofT hE (fun k l => by simp only [chkA]) (fun k l => by simp only [chkC]) (cO_no (by simp) hE) (cQ_no (by simp) hE) (fun k l => by simp only [chkI]) (fun k l => by simp only [chkTs]) (fun k X e ns cx h hn => ?_) (fun k X e ns cx h hn => ?_)
  · refine PG.imp PG.never fun v σ H Q ⟨g, S, it, rl, rj, S', hm, q⟩ => ?_
    simp only [denG] at hm; cases hm
  · cases e <;> simp only [chkT, Bool.false_eq_true] at h
    simp only [Bool.and_eq_true] at h
    exact sim_ti cx h.2 (so.e k X _ cx h.1) (si.e k X _ cx h.2)
/-- no expression -/
theorem Sim.none {c : C} (hc : c.isE = true) (hE : ∀ (k : Kx) (e : Expr), chkE k c e = false) : Sim cal mu c :=
  .ofE hc (fun k X e cx h => by rw [hE] at h; cases h) fun k X e cx h => by rw [hE] at h; cases h
theorem sim_both (c : C) : Sim cal mu c ∧ AllSim cal mu c := by
  induction c with
  | non => exact ⟨sim_non, trivial⟩
  | bl b => exact ⟨sim_bl b, trivial⟩
  | int i => exact ⟨sim_int i, trivial⟩
  | str x => exact ⟨sim_str x, trivial⟩
  | var i => exact ⟨sim_var' i, trivial⟩
  | glo x d => exact ⟨sim_glo x d, trivial⟩
  | nil => exact ⟨sim_nil', trivial⟩
  | cons e es he hs => exact ⟨sim_cons' he.1 (fun e' h => by subst h; exact he.2) hs.1, he.1, hs.2⟩
  | tup es h => exact ⟨sim_tup' h.1, trivial⟩
  | lst es h => exact ⟨sim_lst' h.1, trivial⟩
  | dnew t => exact ⟨sim_dnew' t, trivial⟩
  | disp t ks vs hk _ => exact ⟨sim_disp t vs hk.2, trivial⟩
  | bin op a b ha hb => exact ⟨sim_bin' op ha.1 hb.1, trivial⟩
  | neg a ha => exact ⟨sim_neg' ha.1, trivial⟩
  | cmp op a b ha hb => exact ⟨sim_cmp' op ha.1 hb.1, trivial⟩
  | cmp2 op op' a b c ha hb hc => exact ⟨sim_cmp2' op op' ha.1 hb.1 hc.1, trivial⟩
  | boo an es h => exact ⟨sim_boo' an h.1, trivial⟩
  | not a ha => exact ⟨sim_not' ha.1, trivial⟩
  | idx a i ha hi => exact ⟨sim_idx' ha.1 hi.1, trivial⟩
  | no => exact ⟨sim_no, trivial⟩
  | slc a lo hi ha hl hh => exact ⟨sim_slc' ha.1 hl.1 hh.1, trivial⟩
  | lc vs t it ifs x ht hi hq hx => exact ⟨sim_lc vs ht.1 hi.1 hq.1 hx.1, trivial⟩
  | mv i => exact ⟨(.none rfl fun k e => by simp only [chkE]), trivial⟩
  | mw e h => exact ⟨sim_mw h.1, h.1⟩
  | fz e h => exact ⟨sim_fz h.1, trivial⟩
  | stt e h => exact ⟨sim_stt h.1, trivial⟩
  | call f es h => exact ⟨sim_call' f h.1, trivial⟩
  | blt f es h => exact ⟨sim_blt' f h.1 (fun a e => by subst e; exact h.2.1), trivial⟩
  | mth m o es ho hs => exact ⟨sim_mth' m ho.1 hs.1, trivial⟩
  | irng es h => exact ⟨sim_irng' h.1, trivial⟩
  | iseq a h => exact ⟨sim_iseq' h.1, trivial⟩
  | ienum a h => exact ⟨sim_ienum' h.1, trivial⟩
  | izip a b ha hb => exact ⟨sim_izip' ha.1 hb.1, trivial⟩
  | istr a h => exact ⟨sim_istr' h.1, trivial⟩
  | tn i => exact ⟨sim_tn' i, trivial⟩
  | tw i => exact ⟨sim_tw' i, trivial⟩
  | tt ts h => exact ⟨sim_tt' h.1, trivial⟩
  | ti o i ho hi => exact ⟨sim_ti' ho.1 hi.1, trivial⟩
  | asg t e _ _ => exact ⟨(.none rfl fun k e => by simp only [chkE]), trivial⟩
  | par ts es _ _ => exact ⟨(.none rfl fun k e => by simp only [chkE]), trivial⟩
  | ex e _ => exact ⟨(.none rfl fun k e => by simp only [chkE]), trivial⟩
  | ret e _ => exact ⟨(.none rfl fun k e => by simp only [chkE]), trivial⟩
  | ite c a b _ _ _ => exact ⟨(.none rfl fun k e => by simp only [chkE]), trivial⟩
  | fr t it b _ _ _ => exact ⟨(.none rfl fun k e => by simp only [chkE]), trivial⟩
  | whl n c b _ _ => exact ⟨(.none rfl fun k e => by simp only [chkE]), trivial⟩
theorem sim_all (c : C) : Sim cal mu c := (sim_both c).1
end
end NH

set_option Elab.async false
set_option linter.all false
set_option maxRecDepth 100000
set_option maxHeartbeats 1000000
set_option autoImplicit false
namespace NH
open PySem L2
def kindB (k : Kx) : Bool := match k.sc.kind with
  | .function => true
  | _ => false
/-- name = [..]: the list goes to the name ahead of the block's end -/
def swB (k : Kx) (x : Str) (p : Pos) : Expr → Bool
  | .ListComp _ _ scope pos => (k.look x == some .local) && (p.line == pos.line) && !(scope.names.any fun (n, kk) => n == x && (kk == .local || kk == .cell))
  | _ => false
def isLcC : C → Bool
  | .lc _ _ _ _ _ => true
  | _ => false
def lnOf (ts : List Expr) : Nat := (ts.head?.map (·.pos.line)).getD 0
def nmsOf (k : Kx) (ts : List Expr) : List Str := ts.filterMap fun
  | .Name id pos => if k.look id == some .local && pos.line == lnOf ts then some id else none
  | _ => none
/-- no stores from the right -/
def nsB (k : Kx) : Expr → Expr → Bool
  | .Tuple ts _ _, .Tuple vs _ _ => (nmsOf k ts).length != ts.length || vs.all (foldedForSure 8)
  | _, _ => true
def isNm : Expr → Bool
  | .Name _ _ => true
  | _ => false
def chkAsg (k : Kx) (t e : C) (tg v : Expr) : Bool :=
  match t with
  | .tw i => (match tg with
    | .Name x p => stoB k i x && chkE k e v && (!swB k x p v || (isLcC e && kindB k))
    | _ => false)
  | .tn i => (match tg with
    | .Name x p => stoB k i x && chkE k e v && (!swB k x p v || (isLcC e && kindB k))
    | _ => false)
  | t => chkT k t tg && chkE k e v && nsB k tg v && !isNm tg
def chkPar (k : Kx) (ts es : C) (tg v : Expr) : Bool :=
  match ts with
  | .cons (.tw i) (.cons (.tw j) .nil) => (match tg, v with
    | .Tuple [.Name x px, .Name y py] _ _, .Tuple [a, b] _ _ =>
      decide (i ≠ j) && decide (k.N[i]? = some x) && decide (k.N[j]? = some y) && (k.look x == some .local) && (k.look y == some .local) && (py.line == px.line) && !(x == y) && kindB k
        && !([a, b].all (foldedForSure 8)) && !([a, b].all (constantsAlone 8)) && chkA k es [a, b]
    | _, _ => false)
  | _ => false
mutual
def chkS (k : Kx) : C → Stmt → Bool
  | .asg t e => fun s => match s with
    | .Assign [tg] v _ => chkAsg k t e tg v
    | _ => false
  | .par ts es => fun s => match s with
    | .Assign [tg] v _ => chkPar k ts es tg v
    | _ => false
  | .ex e => fun s => match s with
    | .Expr v _ => chkE k e v && !isLc v
    | _ => false
  | .ret e => fun s => match s with
    | .Return (some v) _ => chkE k e v
    | _ => false
  | .ite c a b => fun s => match s with
    | .If t x y _ => chkE k c t && chkBl k a x && chkBl k b y
    | _ => false
  | .fr t it b => fun s => match s with
    | .For tg iter body [] _ => chkT k t tg && tgOk it tg && chkI k it iter && chkBl k b body
    | _ => false
  | .whl _ c b => fun s => match s with
    | .While t body [] _ => chkE k c t && chkBl k b body
    | _ => false
  | _ => fun _ => false
def chkBl (k : Kx) : C → List Stmt → Bool
  | .nil => fun l => l.isEmpty
  | .cons s r => fun l => match l with
    | x :: xs => chkS k s x && chkBl k r xs
    | [] => false
  | _ => fun _ => false
end
section
variable {cal : Cal} {mu : List Nat} {k : Kx} {X : Cx}
theorem chkE_setc {c : C} {a : Expr} {b : List Comprehension} {s : Scope} {p : Pos} : chkE k c (.SetComp a b s p) = false := by
  induction c <;> simp_all [chkE]
theorem chkE_dictc {c : C} {a a' : Expr} {b : List Comprehension} {s : Scope} {p : Pos} : chkE k c (.DictComp a a' b s p) = false := by
  induction c <;> simp_all [chkE]
theorem chkPar_inv {ts es : C} {tg v : Expr} (h : chkPar k ts es tg v = true) : ∃ i j x px y py n p a b n' p', ts = .cons (.tw i) (.cons (.tw j) .nil) ∧ tg = .Tuple [.Name x px, .Name y py] n p ∧ v = .Tuple [a, b] n' p' ∧
    (decide (i ≠ j) && decide (k.N[i]? = some x) && decide (k.N[j]? = some y) && (k.look x == some .local) && (k.look y == some .local) && (py.line == px.line) && !(x == y) && kindB k
        && !([a, b].all (foldedForSure 8)) && !([a, b].all (constantsAlone 8)) && chkA k es [a, b]) = true := by
  unfold chkPar at h
  split at h
  · split at h
    · exact ⟨_, _, _, _, _, _, _, _, _, _, _, _, rfl, rfl, rfl, h⟩
    · cases h
  · cases h
theorem kindB_iff (h : kindB k = true) : k.sc.kind = .function := by
  unfold kindB at h
  split at h
  · assumption
  · cases h
theorem sw_false {x : Str} {p : Pos} {e : Expr} {c : C} {l : Nat} (cx : Cxt cal k X) (hc : chkE k c e = true) (h : swB k x p e = false) : swapsWith e (some (.Name x p)) l X.env = pure false := by
  cases e with
  | ListComp elt gs scope pos =>
    simp only [swB] at h
    have ky : X.env.kindOf x = k.look x := by show X.env.scope.names.lookup x = _; rw [cx.sc]; rfl
    unfold swapsWith
    simp only [ky, Expr.pos]
    show pure (X.env.blockKind == .function && (k.look x == some .local) && (p.line == pos.line) && !(scope.names.any fun (n, kk) => n == x && (kk == .local || kk == .cell))) = pure false
    rw [Bool.and_assoc, Bool.and_assoc, ← Bool.and_assoc (k.look x == some .local), h, Bool.and_false]
  | SetComp elt gs scope pos => rw [chkE_setc] at hc; cases hc
  | DictComp a b gs scope pos => rw [chkE_dictc] at hc; cases hc
  | _ => rfl
theorem swapped_none {tg e : Expr} (cx : Cxt cal k X) (h : nsB k tg e = true) (hn : ∀ l p, tg ≠ .List l p) : swappedStores [tg] e X.env = pure none := by
  cases tg with
  | List l p => exact (hn l p rfl).elim
  | Tuple ts n p =>
    cases e with
    | Tuple vs n' p' =>
      simp only [nsB, Bool.or_eq_true] at h
      unfold swappedStores
      simp only
      split
      · rfl
      · split
        · rfl
        · have e1 : (ts.filterMap fun
              | .Name id pos => if X.env.kindOf id == some .local && pos.line == (ts.head?.map (·.pos.line)).getD 0 then some id else none
              | _ => none) = nmsOf k ts := by
            unfold nmsOf lnOf
            have : ∀ id, X.env.kindOf id = k.look id := fun id => by show X.env.scope.names.lookup id = _; rw [cx.sc]; rfl
            simp only [this]
          split
          · rfl
          · rename_i hneg
            split
            · rfl
            · rename_i hfold
              exfalso
              rcases h with h | h
              · refine hneg ?_
                rw [Bool.or_eq_true]
                refine .inl ?_
                rw [← e1] at h
                exact h
              · exact hfold h
    | _ => rfl
  | _ => rfl
theorem swapped_two {x y : Str} {px py p p' : Pos} {n n' : Nat} {a b : Expr} (cx : Cxt cal k X) (hx : k.look x = some .local) (hy : k.look y = some .local) (hl : (py.line == px.line) = true) (hxy : (x == y) = false) (hk : kindB k = true)
    (hf : ([a, b].all (foldedForSure 8)) = false) (hc : ([a, b].all (constantsAlone 8)) = false) (hs : ∀ z q, a ≠ .Starred z q) (hs' : ∀ z q, b ≠ .Starred z q) : swappedStores [.Tuple [.Name x px, .Name y py] n p] (.Tuple [a, b] n' p') X.env = pure (some [x, y]) := by
  have kx : X.env.kindOf x = some .local := by show X.env.scope.names.lookup x = _; rw [cx.sc]; exact hx
  have ky : X.env.kindOf y = some .local := by show X.env.scope.names.lookup y = _; rw [cx.sc]; exact hy
  have kb : X.env.blockKind = .function := by unfold Env.blockKind; rw [cx.sc, kindB_iff hk]; rfl
  have st : ([a, b].any fun | .Starred .. => true | _ => false) = false := by
    cases a <;> first | exact (hs _ _ rfl).elim | skip
    all_goals (cases b <;> first | exact (hs' _ _ rfl).elim | rfl)
  have hyx : (y == x) = false := by
    have h1 : x ≠ y := by simpa using hxy
    simpa using Ne.symm h1
  unfold swappedStores
  simp only [kb]
  rw [if_neg (by simp)]
  rw [if_neg (fun z => by have z' := st.symm.trans z; cases z')]
  simp only [List.filterMap_cons, List.filterMap_nil, kx, ky, List.head?_cons, Option.map_some, Option.getD_some, Expr.pos, hl, beq_self_eq_true, Bool.and_self, if_true]
  rw [if_neg (by simp [List.eraseDups_cons, hyx])]
  rw [if_neg (by rw [hf]; decide), if_neg (by rw [hc]; decide)]
/-- name = e -/
theorem sim_nameSt (cx : Cxt cal k X) {i : Nat} {x : Str} {p pos : Pos} {c : C} {e : Expr} (hs : stoB k i x = true) (he : chkE k c e = true) (hw : swB k x p e = false ∨ (isLcC c = true ∧ kindB k = true)) : PS X (.Assign [.Name x p] e pos) (tAsg (tE X.K (denE cal mu c)) (gName i)) := by
  obtain ⟨h1, h2, h3⟩ := cx.sto hs
  by_cases hb : swB k x p e = false
  · exact ps_set cx.nd' h1 h2 ((sim_all c).e k X e cx he) (sw_false cx he hb) h3
  · have hb : swB k x p e = true := by simpa using hb
    obtain ⟨hl, hk⟩ := hw.resolve_left (by rw [hb]; simp)
    cases c <;> simp [isLcC] at hl
    rename_i vs t it ifs xc
    obtain ⟨elt, tg, iter, l, scope, pos', rfl, b1, b2, b3, b4, b5, b6, b7⟩ := lc_inv he
    simp only [swB, Bool.and_eq_true, Bool.not_eq_true'] at hb
    obtain ⟨⟨w1, w2⟩, w3⟩ := hb
    have w1 : k.look x = some .local := by simpa using w1
    have hyl : X.env.scope.names.lookup x = some .local := by rw [cx.sc]; exact w1
    have ok : BlkOk X.N X.env.scope scope (ownOf k vs) := by rw [cx.N, cx.sc]; exact blkOk_by b1
    obtain ⟨pi, fs⟩ := (sim_all (cal := cal) (mu := mu) it).i k X tg iter cx b4 b3
    have hsw : swapsWith (.ListComp elt [⟨tg, iter, l, 0⟩] scope pos') (some (.Name x p)) pos.line X.env = pure true := sw_true (by rw [cx.sc]; exact kindB_iff hk) hyl w2 w3
    have P := ps_setLc (pos := pos') (spos := pos) (g := tGi X.K mu vs (denG cal mu t)) (tt := tQ X.K (denQ cal mu ifs)) (te := tD X.K (M.bind (denE cal mu xc) frz)) (elt := elt) cx.calm cx.nd' h1 hyl hsw pi ok
      (fun s H C cl fp => (sim_all t).g (blkK k scope) _ tg vs (cx.blk scope s H C cl fp) b5 (tgtIn_tns b2)) (fun s H C cl fp => (sim_all ifs).q (blkK k scope) _ l (cx.blk scope s H C cl fp) b6)
      (fun s H C cl fp => PE.toD ((sim_all xc).e (blkK k scope) _ elt (cx.blk scope s H C cl fp) b7)) fs
    rw [ownOf_snd] at P
    refine PS.imp P fun D σ H h => ?_
    rw [denE] at h
    exact lc_read h
theorem nolist {c : C} {e : Expr} (h : chkT k c e = true) : ∀ l p, e ≠ .List l p := by
  rintro l p rfl
  cases c <;> simp [chkT] at h
theorem chkA_nostar1 {c : C} {a : Expr} {r : List Expr} (h : chkA k c (a :: r) = true) : (∀ z q, a ≠ .Starred z q) ∧ ∃ c', chkA k c' r = true := by
  obtain ⟨e, es, _, h1, h2⟩ := chkA_cons h
  refine ⟨?_, es, h2⟩
  rintro z q rfl
  rw [chkE_starred] at h1; cases h1
theorem sim_st (cx : Cxt cal k X) : ∀ (c : C), (∀ s, chkS k c s = true → PS X s (tS X.K mu (denS cal mu c))) ∧ (∀ l, chkBl k c l = true → PSs X l (tS X.K mu (denBl cal mu c))) := by
  intro c
  induction c with
  | asg t e _ _ =>
    refine ⟨fun s h => ?_, fun l h => by simp [chkBl] at h⟩
    cases s <;> simp only [chkS, Bool.false_eq_true] at h
    rename_i tgs v pos
    match tgs, h with
    | [], h => simp at h
    | _ :: _ :: _, h => simp at h
    | [tg], h =>
    rw [denS]
    by_cases hw : ∃ i, t = .tw i
    · obtain ⟨i, rfl⟩ := hw
      cases tg <;> simp only [chkAsg, Bool.false_eq_true] at h
      simp only [Bool.and_eq_true, Bool.or_eq_true, Bool.not_eq_true'] at h
      exact sim_asgW (sim_nameSt cx h.1.1 h.1.2 h.2)
    · by_cases hn : ∃ i, t = .tn i
      · obtain ⟨i, rfl⟩ := hn
        cases tg <;> simp only [chkAsg, Bool.false_eq_true] at h
        simp only [Bool.and_eq_true, Bool.or_eq_true, Bool.not_eq_true'] at h
        exact sim_asgN (sim_nameSt cx h.1.1 h.1.2 h.2)
      · have e1 : chkAsg k t e tg v = (chkT k t tg && chkE k e v && nsB k tg v && !isNm tg) := by
          cases t <;> first | exact (hw ⟨_, rfl⟩).elim | exact (hn ⟨_, rfl⟩).elim | (simp only [chkAsg]; done) | (simp only [chkAsg]; rfl)
        have e2 : denAsg cal mu t e = M.bind (M.bind (denE cal mu e) frz) fun d => denT cal mu t d := by
          cases t <;> first | exact (hw ⟨_, rfl⟩).elim | exact (hn ⟨_, rfl⟩).elim | (simp only [denAsg]; done)
        have h : chkAsg k t e tg v = true := h
        rw [e1] at h
        simp only [Bool.and_eq_true, Bool.not_eq_true'] at h
        obtain ⟨⟨⟨h1, h2⟩, h3⟩, h4⟩ := h
        rw [e2]
        refine sim_asgG ((sim_all e).e k X v cx h2) ((sim_all t).tt k X tg (tns t) cx h1 fun i hi => hi) ?_ (swapped_none cx h3 (nolist h1)) ?_
        · show swapsWith v (some tg) _ _ = _
          cases tg <;> first | (simp [isNm] at h4; done) | skip
          all_goals (cases v <;> rfl)
        · rw [chkT_each h1]; rfl
  | par ts es _ _ =>
    refine ⟨fun s h => ?_, fun l h => by simp [chkBl] at h⟩
    cases s <;> simp only [chkS, Bool.false_eq_true] at h
    rename_i tgs v pos
    match tgs, h with
    | [], h => simp at h
    | _ :: _ :: _, h => simp at h
    | [tg], h =>
    rw [denS]
    obtain ⟨i, j, x, px, y, py, n, p, a, b, n', p', rfl, rfl, rfl, hp⟩ := chkPar_inv (show chkPar k ts es tg v = true from h)
    clear h
    simp only [Bool.and_eq_true, decide_eq_true_eq, Bool.not_eq_true'] at hp
    obtain ⟨⟨⟨⟨⟨⟨⟨⟨⟨⟨hij, hi⟩, hj⟩, hx⟩, hy⟩, hl⟩, hxy⟩, hk⟩, hf⟩, hc⟩, ha⟩ := hp
    have hx : k.look x = some .local := by simpa using hx
    have hy : k.look y = some .local := by simpa using hy
    obtain ⟨s1, c', hc'⟩ := chkA_nostar1 ha
    obtain ⟨s2, _⟩ := chkA_nostar1 hc'
    refine PS.imp (ps_par (i := i) (j := j) cx.calm cx.nd' (by rw [cx.N]; exact hi) (by rw [cx.N]; exact hj) hij (by rw [cx.sc]; exact hx) (by rw [cx.sc]; exact hy) ((sim_all (cal := cal) (mu := mu) es).a k X _ cx ha) (swapped_two cx hx hy hl hxy hk hf hc s1 s2) rfl) fun D σ H ⟨E, g, S, rf, f, S', hm, q⟩ => ?_
    obtain ⟨rs, S1, e1, hm1⟩ := bind_ok hm
    obtain ⟨_, S2, e2, hm2⟩ := bind_ok hm1
    cases hm2
    refine ⟨g, S, rf.rel, rs, S1, e1, fun vs g' H' po rr => ?_⟩
    simp only [denWs] at e2
    match rs, rr, e2 with
    | [], _, e2 => cases e2
    | r1 :: rs, rr, e2 =>
      obtain ⟨_, S3, e3, e4⟩ := bind_ok e2
      match rs, rr, e4 with
      | [], _, e4 => cases e4
      | r2 :: rs, rr, e4 =>
        obtain ⟨_, S4, e5, e6⟩ := bind_ok e4
        match rs, rr, e6 with
        | _ :: _, _, e6 => cases e6
        | [], rr, e6 =>
          cases e6
          obtain ⟨v1, v2, rfl, rf2⟩ := (rf.po po).setWs2 (v1 := .non) (v2 := .non) rr rf.there e3 e5
          exact ⟨v1, v2, rfl, q g' _ H' rf2 (po.stay rf.rel)⟩
  | ex e _ =>
    refine ⟨fun s h => ?_, fun l h => by simp [chkBl] at h⟩
    cases s <;> simp only [chkS, Bool.false_eq_true] at h
    rename_i v pos
    simp only [Bool.and_eq_true, Bool.not_eq_true'] at h
    rw [denS]
    refine sim_ex ((sim_all e).e k X v cx h.1) ?_
    have h1 := h.1
    have h2 := h.2
    cases v with
    | ListComp _ _ _ _ => simp [isLc] at h2
    | SetComp elt gs scope pos => rw [chkE_setc] at h1; cases h1
    | DictComp a b gs scope pos => rw [chkE_dictc] at h1; cases h1
    | _ => rfl
  | ret e _ =>
    refine ⟨fun s h => ?_, fun l h => by simp [chkBl] at h⟩
    cases s <;> simp only [chkS, Bool.false_eq_true] at h
    rename_i v pos
    cases v with
    | none => simp at h
    | some v =>
      rw [denS]
      exact sim_ret ((sim_all e).e k X v cx h)
  | ite c a b _ ha hb =>
    refine ⟨fun s h => ?_, fun l h => by simp [chkBl] at h⟩
    cases s <;> simp only [chkS, Bool.false_eq_true] at h
    simp only [Bool.and_eq_true] at h
    rw [denS]
    exact sim_ite ((sim_all c).t k X _ cx h.1.1) (ha.2 _ h.1.2) (hb.2 _ h.2)
  | fr t it b _ _ hb =>
    refine ⟨fun s h => ?_, fun l h => by simp [chkBl] at h⟩
    cases s <;> simp only [chkS, Bool.false_eq_true] at h
    rename_i tg iter body els pos
    cases els with
    | cons _ _ => simp at h
    | nil =>
      simp only [Bool.and_eq_true] at h
      obtain ⟨pi, fs⟩ := (sim_all (cal := cal) (mu := mu) it).i k X tg iter cx h.1.2 h.1.1.2
      rw [denS]
      exact sim_fr (ns := tns t) cx pi ((sim_all t).g k X tg (tns t) cx h.1.1.1 fun i hi => hi) (hb.2 _ h.2) fs
  | whl n c b _ hb =>
    refine ⟨fun s h => ?_, fun l h => by simp [chkBl] at h⟩
    cases s <;> simp only [chkS, Bool.false_eq_true] at h
    rename_i tst body els pos
    cases els with
    | cons _ _ => simp at h
    | nil =>
      simp only [Bool.and_eq_true] at h
      rw [denS]
      exact sim_whl cx ((sim_all c).t k X _ cx h.1) (hb.2 _ h.2)
  | nil =>
    refine ⟨fun s h => by simp [chkS] at h, fun l h => ?_⟩
    simp [chkBl] at h
    subst h
    rw [denBl]
    exact sim_nilB
  | cons c cs hc hs =>
    refine ⟨fun s h => by simp [chkS] at h, fun l h => ?_⟩
    cases l with
    | nil => simp [chkBl] at h
    | cons x r =>
      have h' : chkS k c x = true ∧ chkBl k cs r = true := by simpa [chkBl] using h
      rw [denBl]
      exact sim_consB (hc.1 x h'.1) (hs.2 r h'.2)
  | _ => exact ⟨fun s h => by simp [chkS] at h, fun l h => by simp [chkBl] at h⟩
end
end NH

set_option Elab.async false
set_option linter.all false
set_option maxRecDepth 100000
set_option maxHeartbeats 1000000
set_option autoImplicit false
namespace NH
open PySem L2
def ownFrom : Nat → List Ar → List Nat
  | _, [] => []
  | j, .own _ :: as => j :: ownFrom (j + 1) as
  | j, .val _ :: as => ownFrom (j + 1) as
theorem ownFrom_eq : ∀ (as : List Ar) (j : Nat), ((as.zipIdx j).filter fun p => p.1.isOwn).map (·.2) = ownFrom j as
  | [], j => rfl
  | .own o :: as, j => by
    rw [List.zipIdx_cons, List.filter_cons, if_pos (by rfl), List.map_cons, ownFrom_eq as (j + 1)]; rfl
  | .val d :: as, j => by
    rw [List.zipIdx_cons, List.filter_cons, if_neg (by simp [Ar.isOwn]), ownFrom_eq as (j + 1)]; rfl
theorem ownPlaces_eq (as : List Ar) : ownPlaces as = ownFrom 0 as := ownFrom_eq as 0
theorem ownFrom_mem : ∀ {as : List Ar} {j i : Nat} {o : O}, as[i]? = some (.own o) → j + i ∈ ownFrom j as
  | [], j, i, o, h => by simp at h
  | .own o' :: as, j, 0, o, h => by simp [ownFrom]
  | .own o' :: as, j, i + 1, o, h => by
    have := ownFrom_mem (as := as) (j := j + 1) (i := i) (o := o) (by simpa using h)
    simp only [ownFrom, List.mem_cons]
    exact .inr (by rw [show j + (i + 1) = j + 1 + i by omega]; exact this)
  | .val d :: as, j, 0, o, h => by simp at h
  | .val d :: as, j, i + 1, o, h => by
    have := ownFrom_mem (as := as) (j := j + 1) (i := i) (o := o) (by simpa using h)
    simp only [ownFrom]
    rw [show j + (i + 1) = j + 1 + i by omega]; exact this
theorem ownFrom_lt : ∀ {as : List Ar} {j i : Nat}, i ∈ ownFrom j as → j ≤ i ∧ i < j + as.length
  | [], j, i, h => by simp [ownFrom] at h
  | .own o :: as, j, i, h => by
    simp only [ownFrom, List.mem_cons] at h
    rcases h with rfl | h
    · simp
    · have := ownFrom_lt h; simp; omega
  | .val d :: as, j, i, h => by
    simp only [ownFrom] at h
    have := ownFrom_lt h; simp; omega
section
variable {K : PySem.W.Frag} {mu : List Nat} {E : Ent} {g g' : Gh} {S S' : Sta} {σ σ' : St} {H H' : Hp}
theorem outs_ok (rl : Rel K g S σ H) : ∀ {as : List Ar} {vs : List V} {j : Nat} {outs : List O}, outsOf S.σ (ownFrom j as) = some outs → vs.length = as.length → (∀ (i : Nat), j + i ∈ ownFrom j as → σ[j + i]? = (vs.map some)[i]?) → RepOuts K g H as vs outs
  | [], vs, j, outs, h, hl, hs => by simp [ownFrom, outsOf] at h; subst h; rfl
  | .val d :: as, vs, j, outs, h, hl, hs => by
    cases vs with
    | nil => simp at hl
    | cons v r =>
      refine ⟨v, r, rfl, outs_ok rl (j := j + 1) (by simpa [ownFrom] using h) (by simpa using hl) fun i hi => ?_⟩
      have := hs (i + 1) (by simp only [ownFrom]; rw [show j + (i + 1) = j + 1 + i by omega]; exact hi)
      rw [show j + (i + 1) = j + 1 + i by omega] at this
      simpa using this
  | .own o :: as, vs, j, outs, h, hl, hs => by
    cases vs with
    | nil => simp at hl
    | cons v r =>
      simp only [ownFrom, outsOf] at h
      split at h
      · rename_i o1 os h1 h2
        cases h
        obtain ⟨a, e, ro, _⟩ := rl.own j o1 h1
        have hv := hs 0 (by simp [ownFrom])
        rw [Nat.add_zero, e] at hv
        have hv : v = .ref a := by simpa using hv.symm
        refine ⟨v, r, o1, os, a, rfl, rfl, hv, ro, outs_ok rl (j := j + 1) h2 (by simpa using hl) fun i hi => ?_⟩
        have := hs (i + 1) (by simp only [ownFrom, List.mem_cons]; exact .inr (by rw [show j + (i + 1) = j + 1 + i by omega]; exact hi))
        rw [show j + (i + 1) = j + 1 + i by omega] at this
        simpa using this
      · cases h
/-- the entry of a def -/
theorem Rel.enter {as : List Ar} {vs : List V} {st : List O} {n : Nat} (r : Rel K g ⟨as.map slOf, st⟩ (vs.map some) H) : Rel K g ⟨as.map slOf ++ List.replicate n .no, st⟩ (vs.map some ++ List.replicate n none) H ∧
    ∀ i a, OwnAt ⟨as.map slOf ++ List.replicate n .no, st⟩ (vs.map some ++ List.replicate n none) i a → i < as.length ∧ OwnAt ⟨as.map slOf, st⟩ (vs.map some) i a := by
  have hl : as.length = vs.length := by simpa using r.len
  have sl : ∀ (i : Nat) (x : Sl), (as.map slOf ++ List.replicate n .no)[i]? = some x → x ≠ .no → i < as.length ∧ (as.map slOf)[i]? = some x := by
    intro i x h hx
    by_cases hi : i < as.length
    · rw [List.getElem?_append_left (by simpa using hi)] at h
      exact ⟨hi, h⟩
    · rw [List.getElem?_append_right (by simpa using hi)] at h
      rw [List.getElem?_replicate] at h
      split at h
      · cases h; exact (hx rfl).elim
      · cases h
  have σl : ∀ (i : Nat), i < as.length → (vs.map some ++ List.replicate n none)[i]? = (vs.map some)[i]? := fun i hi => List.getElem?_append_left (by simp; omega)
  have own : ∀ i a, OwnAt ⟨as.map slOf ++ List.replicate n .no, st⟩ (vs.map some ++ List.replicate n none) i a → i < as.length ∧ OwnAt ⟨as.map slOf, st⟩ (vs.map some) i a := by
    rintro i a ⟨⟨o, ho⟩, e⟩
    obtain ⟨h1, h2⟩ := sl i _ ho (by simp)
    exact ⟨h1, ⟨o, h2⟩, by rw [← σl i h1]; exact e⟩
  refine ⟨⟨by simp [hl], fun i d h => ?_, fun i o h => ?_, fun i j a h1 h2 => r.inj i j a (own i a h1).2 (own j a h2).2, r.st, r.gl, r.gn⟩, own⟩
  · obtain ⟨h1, h2⟩ := sl i _ h (by simp)
    rw [σl i h1]
    exact r.val i d h2
  · obtain ⟨h1, h2⟩ := sl i _ h (by simp)
    rw [σl i h1]
    exact r.own i o h2
theorem endR_ok {r : R} {rt : Rt} {v : V} (rf : RelF K mu E g S σ H) (h : endR mu S r = some rt) (rr : RepR K g S σ E.H0 H r v) : RepRt K g E.H0 H rt v := by
  cases r with
  | val d => cases h; exact rr
  | new o => cases h; obtain ⟨a, e, h1, h2, h3, _⟩ := rr; exact ⟨a, e, h1, h2, h3⟩
  | slot i =>
    have rr : σ[i]? = some (some v) := rr
    simp only [endR] at h
    split at h
    · cases h
    · rename_i hi
      split at h
      · rename_i o ho
        cases h
        obtain ⟨a, e, ro, hg⟩ := rf.rel.own i o ho
        rw [rr] at e; cases e
        rcases rf.own i a ⟨⟨o, ho⟩, rr⟩ with ⟨z, _⟩ | z
        · exact (hi z).elim
        · exact ⟨a, rfl, ro, z, hg⟩
      · rename_i d hd
        cases h
        obtain ⟨w, e, rd⟩ := rf.rel.val i d hd
        rw [rr] at e; cases e
        exact rd
      · cases h
end
def spRun (K : PySem.W.Frag) (cal : Cal) (fd : Fd) : Sp := fun vs H Q _ => ∃ g as st, Rel K g ⟨as.map slOf, st⟩ (vs.map some) H ∧ ∃ r outs st', runFd cal fd as st = .ok r outs st' ∧
  ∀ v g' H', StRel K g' st' H' → RepOuts K g' H' as vs outs → Fr ⟨as.map slOf, st⟩ (vs.map some) g g' H H' → RepRt K g' H H' r v → Q v H'
def kxOf (N : List Str) (scope : Scope) : Kx := ⟨N, scope, fun _ => true⟩
section
variable {P : Program} {w : World} {K : PySem.W.Frag} {mg : Str → Option Value} {base : Heap}
/-- what the globals are to a def -/
structure Glo (P : Program) (w : World) (K : PySem.W.Frag) (mg : Str → Option Value) (base : Heap) (cal : Cal) (lvl : Nat) : Prop where
  blt : ∀ x ∈ bltNames, mg x = none
  fns : ∀ f, (∀ as st, cal f as st = .bad) ∨ ∃ a fd ps, mg f = some (.ref a) ∧ PySem.W.keepIn K (.ref a) = true ∧ Binds K fd ps [] ∧ FnOk P w K mg base CX0 lvl a fd ps (spOf K cal f)
theorem cxt_of {cal : Cal} {lvl : Nat} (G : Glo P w K mg base cal lvl) {N : List Str} {qual : Str} {scope : Scope} {f : Addr} {cdv : Value} {A : Around} {outer : List Env} {s : Shared} {H : Hp} {E : XK} (nd : N.Nodup) (hr : Room lvl (A.deeper (PyProof.Rows.envOfC qual scope s.heap.objs.size f cdv))) :
    Cxt cal (kxOf N scope) (cxOf CX0 P w K mg base N qual scope f cdv A outer s H E).nox where
  N := rfl
  sc := rfl
  fn := fun _ => rfl
  calm := rfl
  nd := nd
  po := PassesOwn.never
  hu := by
    have h := hr.un
    show (A.deeper (PyProof.Rows.envOfC qual scope s.heap.objs.size f cdv)).units + 66 < cLine
    omega
  blt := G.blt
  fns := fun x => (G.fns x).imp id fun ⟨a, fd, ps, h1, h2, h3, h4⟩ => ⟨lvl, a, fd, ps, h1, h2, h3, hr, h4⟩
theorem fd_ok {cal : Cal} {lvl : Nat} (G : Glo P w K mg base cal lvl) {x qual : Str} {params : Arguments} {body : List Stmt} {scope : Scope} {f : Addr} {fdd : FuncData} {N ps : List Str} {fd : Fd} (F : FunD K x qual params body scope [] [] f fdd) (Sc : FnScope N ps scope)
    (hn : fd.n = ps.length) (hk : fd.k = N.length) (hc : chkBl (kxOf N scope) fd.body body = true) : FnOk P w K mg base CX0 (lvl + 1) f fdd ps (spRun K cal fd) := by
  have hlen : ∀ vs H Q E, spRun K cal fd vs H Q E → vs.length = ps.length := by
    rintro vs H Q E ⟨g, as, st, rl, r, outs, st', hrun, _⟩
    unfold runFd at hrun
    split at hrun
    · rename_i hh
      have : as.length = vs.length := by simpa using rl.len
      rw [← this, hh.1, hn]
    · cases hrun
  refine F.ok Sc hlen fun cdv A outer s H vs Q E hr h => ⟨tS K fd.m (denBl cal fd.m fd.body), PSs.nox ((sim_st (cxt_of G Sc.nd hr) fd.body).2 body hc), ?_⟩
  have hl := hlen vs H Q E h
  obtain ⟨g, as, st, rl, r, outs, st', hrun, q⟩ := h
  have hav : as.length = vs.length := by simpa using rl.len
  unfold runFd at hrun
  split at hrun
  case isFalse => cases hrun
  rename_i hh
  obtain ⟨h1, h2, h3⟩ := hh
  have hst : L2.start N vs = vs.map some ++ List.replicate (fd.k - fd.n) none := by
    unfold L2.start
    rw [hk, hn, hl]
  rw [hst]
  obtain ⟨rE, oE⟩ := rl.enter (n := fd.k - fd.n)
  split at hrun
  · rename_i fl S2 hbody
    refine ⟨⟨g, ⟨as.map slOf, st⟩, vs.map some, H⟩, g, _, ⟨rE, ⟨[], by simp, by simp⟩, fun b o hb _ _ => hb, fun b hb => hb, fun i a hi => ?_, fun i hi => ?_⟩, fl, S2, hbody, ?_⟩
    · obtain ⟨q1, q2⟩ := oE i a hi
      refine .inl ⟨?_, q2⟩
      obtain ⟨⟨o, ho⟩, _⟩ := q2
      rw [← h2, ownPlaces_eq]
      have := ownFrom_mem (j := 0) (slOf_own ho)
      simpa using this
    · rw [← h2, ownPlaces_eq] at hi
      have := ownFrom_lt hi
      exact List.getElem?_append_left (by simp; omega)
    · have fin : ∀ {rt : Rt} {os : List O} {g' : Gh} {σ' : St} {H' : Hp} {v : V}, outsOf S2.σ fd.m = some os → RelF K fd.m ⟨g, ⟨as.map slOf, st⟩, vs.map some, H⟩ g' S2 σ' H' → RepRt K g' H H' rt v → r = rt → outs = os → st' = S2.st → Q v H' := by
        intro rt os g' σ' H' v ho rf rr e1 e2 e3
        subst e1 e2 e3
        refine q v g' H' ⟨rf.rel.st, rf.rel.gl, rf.rel.gn⟩ (outs_ok rf.rel (j := 0) (by rw [← ownPlaces_eq, h2]; exact ho) hav.symm fun i hi => ?_) ⟨rf.ext, rf.keep, rf.there⟩ rr
        rw [← ownPlaces_eq, h2] at hi
        have := rf.smu (0 + i) hi
        rw [this]
        simp
      cases fl with
      | nx =>
        intro g' σ' H' rf _
        simp only at hrun
        split at hrun
        · rename_i r0 os e1 e2
          cases hrun
          cases e1
          exact fin (rt := .val .non) e2 rf (show Rep K g' H' .non .non from rfl) rfl rfl rfl
        · cases hrun
      | rt rr =>
        intro v g' σ' H' rf _ rv
        simp only at hrun
        split at hrun
        · rename_i r0 os e1 e2
          cases hrun
          exact fin e2 rf (endR_ok rf e1 rv) rfl rfl rfl
        · cases hrun
  · cases hrun
end
end NH

set_option Elab.async false
set_option linter.all false
set_option maxRecDepth 100000
set_option maxHeartbeats 1000000
set_option autoImplicit false
namespace NH
open PySem L2
section
variable {P : Program} {w : World} {K : PySem.W.Frag} {mg : Str → Option Value} {base : Heap}
/-- a def of the table as it stands -/
def TabAt (K : PySem.W.Frag) (mg : Str → Option Value) (x : Str) (fd : Fd) : Prop :=
  ∃ (a : Addr) (fdd : FuncData) (qual : Str) (params : Arguments) (body : List Stmt) (scope : Scope) (N ps : List Str), mg x = some (.ref a) ∧ Binds K fdd ps [] ∧ FunD K x qual params body scope [] [] a fdd ∧ FnScope N ps scope ∧ fd.n = ps.length ∧ fd.k = N.length ∧ chkBl (kxOf N scope) fd.body body = true
theorem tab_ok {tab : Tab} (hb : ∀ x ∈ bltNames, mg x = none) (hT : ∀ x fd, tab.lookup x = some fd → TabAt K mg x fd) : ∀ n, Glo P w K mg base (calN tab n) n
  | 0 => ⟨hb, fun f => .inl fun as st => rfl⟩
  | n + 1 => ⟨hb, fun f => by
      have G := tab_ok hb hT n
      cases h : tab.lookup f with
      | none => exact .inl fun as st => by simp only [calN, h]
      | some fd =>
        obtain ⟨a, fdd, qual, params, body, scope, N, ps, h1, h2, h3, h4, h5, h6, h7⟩ := hT f fd h
        refine .inr ⟨a, fdd, ps, h1, h3.kp, h2, FnOk.imp (fd_ok G h3 h4 h5 h6 h7) fun vs H Q E ⟨g, as, st, rl, r, outs, st', hc, q⟩ => ?_⟩
        refine ⟨g, as, st, rl, r, outs, st', ?_, q⟩
        simpa only [calN, h] using hc⟩
theorem PSs.frz0 {X : Cx} {l : List Stmt} {t : TS} (h : PSs X l t) : PSs X l (fun D σ H => t D σ H ∨ ∃ a xs, H a = some (.lst xs) ∧ ∀ o, t D σ (upd H a (.frz o (.lst xs)))) := by
  refine ⟨fun pins s σ H D I q => ?_⟩
  rcases q with q | ⟨a, xs, ha, q⟩
  · exact h.run pins s σ H D I q
  · obtain ⟨o, I2⟩ := inv_frz I ha
    exact h.run pins s σ _ D I2 (q o)
theorem rep_ints {g : Gh} {H : Hp} : ∀ ns : List Int, RepAll K g H (ns.map D.int) (ns.map V.int)
  | [] => by simp [RepAll]
  | n :: r => by
    simp only [List.map_cons]
    unfold RepAll
    exact ⟨_, _, rfl, rfl, rep_ints r⟩
/-- the law's own promise -/
def spLaw (K : PySem.W.Frag) (cal : Cal) (fd : Fd) : Sp := fun vs H Q _ => ∃ (a : Addr) (ns : List Int) (st' : List O), vs = [.ref a] ∧ SqL K H a (ns.map V.int) ∧ runFd cal fd [.val (.klst (ns.map D.int))] [] = .ok (.val (.bl true)) [] st' ∧ ∀ H', Q (.bl true) H'
theorem law_ok {cal : Cal} {lvl : Nat} (G : Glo P w K mg base cal lvl) {x qual y : Str} {params : Arguments} {body : List Stmt} {scope : Scope} {f : Addr} {fdd : FuncData} {N : List Str} {fd : Fd} (F : FunD K x qual params body scope [] [] f fdd) (Sc : FnScope N [y] scope)
    (hk : fd.k = N.length) (hc : chkBl (kxOf N scope) fd.body body = true) : FnOk P w K mg base CX0 (lvl + 1) f fdd [y] (spLaw K cal fd) := by
  refine F.ok Sc (fun vs H Q E ⟨a, ns, st', e, _⟩ => by rw [e]; rfl) fun cdv A outer s H vs Q E hr h => ⟨_, PSs.nox (PSs.frz0 ((sim_st (mu := fd.m) (cxt_of G Sc.nd hr) fd.body).2 body hc)), ?_⟩
  obtain ⟨a, ns, st', rfl, hs, hrun, q⟩ := h
  have go : ∀ H0 : Hp, FzL K H0 a (ns.map V.int) → tS K fd.m (denBl cal fd.m fd.body) { nx := fun _ H' => Q .non H', rt := Q } (L2.start N [.ref a]) H0 := by
    intro H0 hz
    unfold runFd at hrun
    split at hrun
    case isFalse => cases hrun
    rename_i hh
    obtain ⟨h1, h2, h3⟩ := hh
    have h1 : fd.n = 1 := h1.symm
    have h2 : fd.m = [] := h2.symm
    have hst : L2.start N [V.ref a] = [V.ref a].map some ++ List.replicate (fd.k - fd.n) none := by
      unfold L2.start
      rw [hk, h1]; rfl
    rw [hst]
    have rep : Rep K [] H0 (.klst (ns.map D.int)) (.ref a) := by
      unfold Rep
      exact ⟨a, ns.map V.int, rfl, hz, rep_ints ns⟩
    have rl : Rel K [] ⟨[Ar.val (.klst (ns.map D.int))].map slOf, []⟩ ([V.ref a].map some) H0 := by
      refine ⟨rfl, fun i d hi => ?_, fun i o hi => ?_, fun i j b hi => ?_, fun n o hn => ?_, rfl, .nil⟩
      · cases i with
        | zero => simp [slOf] at hi; subst hi; exact ⟨_, rfl, rep⟩
        | succ i => simp at hi
      · cases i with
        | zero => simp [slOf] at hi
        | succ i => simp at hi
      · obtain ⟨⟨o, ho⟩, _⟩ := hi
        cases i with
        | zero => simp [slOf] at ho
        | succ i => simp at ho
      · simp at hn
    obtain ⟨rE, oE⟩ := rl.enter (n := fd.k - fd.n)
    split at hrun
    · rename_i fl S2 hbody
      refine ⟨⟨[], ⟨[Ar.val (.klst (ns.map D.int))].map slOf, []⟩, [V.ref a].map some, H0⟩, [], _, ⟨rE, ⟨[], by simp, by simp⟩, fun b o hb _ _ => hb, fun b hb => hb, fun i b hi => ?_, fun i hi => ?_⟩, fl, S2, hbody, ?_⟩
      · obtain ⟨_, ⟨o, ho⟩, _⟩ := oE i b hi
        cases i with
        | zero => simp [slOf] at ho
        | succ i => simp at ho
      · rw [h2] at hi; simp at hi
      · cases fl with
        | nx =>
          simp only at hrun
          split at hrun
          · rename_i r0 os e1 e2
            cases e1
            cases hrun
          · cases hrun
        | rt rr =>
          intro v g' σ' H' rf _ rv
          simp only at hrun
          split at hrun
          · rename_i r0 os e1 e2
            cases hrun
            have := endR_ok rf e1 rv
            have hv : v = .bl true := this
            rw [hv]
            exact q H'
          · cases hrun
    · cases hrun
  rcases hs with (hs | hs) | hs
  · exact .inr ⟨a, _, hs, fun o => go _ (.inl ⟨o, upd_same⟩)⟩
  · exact .inl (go H (.inl hs))
  · exact .inl (go H (.inr hs))
end
end NH
namespace NH
theorem lookup_mem {α β : Type} [BEq α] [LawfulBEq α] {l : List (α × β)} {x : α} {y : β} (h : l.lookup x = some y) : (x, y) ∈ l := by
  induction l with
  | nil => simp at h
  | cons p l ih =>
    obtain ⟨a, b⟩ := p
    rw [List.lookup_cons] at h
    by_cases e : (x == a) = true
    · rw [e] at h
      cases h
      have : x = a := eq_of_beq e
      subst this
      exact List.mem_cons_self
    · have e : (x == a) = false := by simpa using e
      rw [e] at h
      exact List.mem_cons_of_mem _ (ih h)
end NH

set_option Elab.async false
set_option linter.all false
set_option maxRecDepth 100000
set_option maxHeartbeats 1000000
set_option autoImplicit false
namespace NH
open PySem L2
@[simp] theorem dc_true : dc True = true := dc_iff.mpr trivial
@[simp] theorem dc_false : dc False = false := by
  cases e : dc False with
  | false => rfl
  | true => exact (dc_iff.mp e).elim
/-- the step comes to an end where Q holds -/
def W {α : Type} (m : M α) (Q : α → Sta → Prop) (s : Sta) : Prop := ∃ a s', m s = .ok a s' ∧ Q a s'
section
variable {α β : Type}
theorem W.mono {m : M α} {Q Q' : α → Sta → Prop} {s : Sta} (h : W m Q s) (k : ∀ a s', Q a s' → Q' a s') : W m Q' s := let ⟨a, s', e, q⟩ := h; ⟨a, s', e, k a s' q⟩
theorem W.bind {m : M α} {f : α → M β} {Q : β → Sta → Prop} {s : Sta} (h : W m (fun a s' => W (f a) Q s') s) : W (M.bind m f) Q s := by
  obtain ⟨a, s1, e1, b, s2, e2, q⟩ := h
  exact ⟨b, s2, by unfold M.bind; rw [e1]; exact e2, q⟩
theorem W.of {m : M α} {Q : α → Sta → Prop} {s s' : Sta} {a : α} (e : m s = .ok a s') (q : Q a s') : W m Q s := ⟨a, s', e, q⟩
theorem lcLoop_W {vs : List Nat} {tg : Itm → M Unit} {tst : M Bool} {el : M D} (P : List Itm → List D → Sta → Prop)
    (hs : ∀ it r acc s, P (it :: r) acc s → W (tg it) (fun _ s2 => W tst (fun b s3 => if b = true then W el (fun e s4 => acc.length < sizeLine ∧ P r (acc ++ [e]) s4) s3 else P r acc s3) s2) { s with σ := wipeS s.σ vs }) :
    ∀ (its : List Itm) (acc : List D) (s : Sta), P its acc s → W (lcLoop vs tg tst el its acc) (fun a s' => P [] a s') s
  | [], acc, s, h => ⟨acc, s, rfl, h⟩
  | it :: its, acc, s, h => by
    obtain ⟨_, s2, e2, b, s3, e3, h3⟩ := hs it its acc s h
    cases b with
    | false =>
      simp only [Bool.false_eq_true, if_false] at h3
      obtain ⟨a, s', e, q⟩ := lcLoop_W P hs its acc s3 h3
      refine ⟨a, s', ?_, q⟩
      unfold lcLoop
      simp only [M.bind, e2, e3, Bool.false_eq_true, if_false, e]
    | true =>
      simp only [if_true] at h3
      obtain ⟨d, s4, e4, hl, h4⟩ := h3
      obtain ⟨a, s', e, q⟩ := lcLoop_W P hs its (acc ++ [d]) s4 h4
      refine ⟨a, s', ?_, q⟩
      unfold lcLoop
      simp only [M.bind, e2, e3, if_true, e4, if_pos hl, e]
theorem forLoop_W {tg : Itm → M Unit} {body : M Fl} (P : List Itm → Sta → Prop) (QR : R → Sta → Prop)
    (hs : ∀ it r s, P (it :: r) s → W (tg it) (fun _ s2 => W body (fun f s3 => match f with | .nx => P r s3 | .rt x => QR x s3) s2) s) :
    ∀ (its : List Itm) (s : Sta), P its s → W (forLoop tg body its) (fun f s' => match f with | .nx => P [] s' | .rt x => QR x s') s
  | [], s, h => ⟨.nx, s, rfl, h⟩
  | it :: its, s, h => by
    obtain ⟨_, s2, e2, f, s3, e3, h3⟩ := hs it its s h
    cases f with
    | nx =>
      obtain ⟨a, s', e, q⟩ := forLoop_W P QR hs its s3 h3
      refine ⟨a, s', ?_, q⟩
      unfold forLoop
      simp only [M.bind, e2, e3, e]
    | rt x =>
      refine ⟨.rt x, s3, ?_, h3⟩
      unfold forLoop
      simp only [M.bind, e2, e3]
theorem whileLoop_W {t : M Bool} {body : M Fl} (P : Nat → Sta → Prop) (Qn : Sta → Prop) (QR : R → Sta → Prop)
    (hs : ∀ n s, P n s → W t (fun b s2 => if b = true then W body (fun f s3 => match f with | .nx => ∃ m, m < n ∧ P m s3 | .rt x => QR x s3) s2 else Qn s2) s) :
    ∀ (fuel n : Nat) (s : Sta), n < fuel → P n s → W (whileLoop t body fuel) (fun f s' => match f with | .nx => Qn s' | .rt x => QR x s') s
  | 0, n, s, hn, h => by omega
  | fuel + 1, n, s, hn, h => by
    obtain ⟨b, s2, e2, h2⟩ := hs n s h
    cases b with
    | false =>
      simp only [Bool.false_eq_true, if_false] at h2
      refine ⟨.nx, s2, ?_, h2⟩
      unfold whileLoop
      simp only [M.bind, e2, Bool.false_eq_true, if_false]
    | true =>
      simp only [if_true] at h2
      obtain ⟨f, s3, e3, h3⟩ := h2
      cases f with
      | nx =>
        obtain ⟨m, hm, h4⟩ := h3
        obtain ⟨a, s', e, q⟩ := whileLoop_W P Qn QR hs fuel m s3 (by omega) h4
        refine ⟨a, s', ?_, q⟩
        unfold whileLoop
        simp only [M.bind, e2, if_true, e3, e]
      | rt x =>
        refine ⟨.rt x, s3, ?_, h3⟩
        unfold whileLoop
        simp only [M.bind, e2, if_true, e3]
theorem W_step {cal : Cal} {mu : List Nat} {c cs : C} {s s' : Sta} {Q : Fl → Sta → Prop} (h1 : denS cal mu c s = .ok .nx s') (h2 : W (denBl cal mu cs) Q s') : W (denBl cal mu (.cons c cs)) Q s := by
  obtain ⟨f, s2, e, q⟩ := h2
  exact ⟨f, s2, by rw [denBl]; simp only [M.bind, h1, e], q⟩
theorem W_ret {cal : Cal} {mu : List Nat} {c cs : C} {s s' : Sta} {r : R} {Q : Fl → Sta → Prop} (h1 : denS cal mu c s = .ok (.rt r) s') (h2 : Q (.rt r) s') : W (denBl cal mu (.cons c cs)) Q s :=
  ⟨.rt r, s', by rw [denBl]; simp only [M.bind, h1], h2⟩
theorem W_seq {cal : Cal} {mu : List Nat} {c cs : C} {s : Sta} {Q : Fl → Sta → Prop} (h : W (denS cal mu c) (fun f s' => match f with | .nx => W (denBl cal mu cs) Q s' | .rt r => Q (.rt r) s') s) : W (denBl cal mu (.cons c cs)) Q s := by
  obtain ⟨f, s2, e, h⟩ := h
  cases f with
  | nx => exact W_step e h
  | rt r => exact W_ret e h
theorem W_nil {cal : Cal} {mu : List Nat} {s : Sta} {Q : Fl → Sta → Prop} (h : Q .nx s) : W (denBl cal mu .nil) Q s := ⟨.nx, s, by rw [denBl], h⟩
theorem W_ite {cal : Cal} {mu : List Nat} {c a b : C} {s s' : Sta} {k : Bool} {Q : Fl → Sta → Prop} (h1 : M.bind (denE cal mu c) asBl s = .ok k s') (h2 : W (if k = true then denBl cal mu a else denBl cal mu b) Q s') : W (denS cal mu (.ite c a b)) Q s := by
  obtain ⟨f, s2, e, q⟩ := h2
  refine ⟨f, s2, ?_, q⟩
  rw [denS]
  generalize M.bind (denE cal mu c) asBl = m at h1
  unfold M.bind
  simp only [h1]
  exact e
theorem runFd_W {cal : Cal} {fd : Fd} {as : List Ar} {st : List O} {Q : Rt → List O → List O → Prop} (hl : as.length = fd.n ∧ ownPlaces as = fd.m ∧ fd.n ≤ fd.k)
    (h : W (denBl cal fd.m fd.body) (fun f s => ∃ r os, (match f with | .nx => some (Rt.val .non) | .rt x => endR fd.m s x) = some r ∧ outsOf s.σ fd.m = some os ∧ Q r os s.st) ⟨as.map slOf ++ List.replicate (fd.k - fd.n) .no, st⟩) :
    ∃ r os st', runFd cal fd as st = .ok r os st' ∧ Q r os st' := by
  obtain ⟨f, s, e, r, os, e1, e2, q⟩ := h
  refine ⟨r, os, s.st, ?_, q⟩
  unfold runFd
  rw [if_pos hl, e]
  cases f with
  | nx => simp only at e1 ⊢; cases e1; simp only [e2]
  | rt x => simp only at e1 ⊢; simp only [e1, e2]
section
variable {cal : Cal} {mu : List Nat} {s : Sta}
theorem W_lc {vs : List Nat} {t it ifs e : C} {Q : R → Sta → Prop} (h : W (denI cal mu it) (fun ds s1 => W (lcLoop vs (denG cal mu t) (denQ cal mu ifs) (M.bind (denE cal mu e) frz) ds []) (fun acc s2 => Q (.new (.lst acc)) { s2 with σ := backS s1.σ s2.σ vs }) s1) s) : W (denE cal mu (.lc vs t it ifs e)) Q s := by
  rw [denE]
  obtain ⟨ds, s1, e1, acc, s2, e2, q⟩ := h
  refine ⟨_, _, ?_, q⟩
  generalize M.bind (denE cal mu e) frz = m at e2 ⊢
  unfold M.bind
  simp only [e1, e2]
theorem W_retE {e cs : C} {Q : Fl → Sta → Prop} (h : W (denE cal mu e) (fun r s' => Q (.rt r) s') s) : W (denBl cal mu (.cons (.ret e) cs)) Q s := by
  obtain ⟨r, s1, e1, q⟩ := h
  exact W_ret (by rw [denS]; unfold M.bind; simp only [e1]) q
theorem W_asgW {i : Nat} {e cs : C} {Q : Fl → Sta → Prop} (h : W (denE cal mu e) (fun r s' => W (setW mu i r) (fun _ s2 => W (denBl cal mu cs) Q s2) s') s) : W (denBl cal mu (.cons (.asg (.tw i) e) cs)) Q s := by
  obtain ⟨r, s1, e1, _, s2, e2, h⟩ := h
  refine W_step (s' := s2) ?_ h
  rw [denS]
  simp only [denAsg, M.bind, e1, e2]
theorem W_asgT {t e cs : C} {Q : Fl → Sta → Prop} (ht : ∀ i, t ≠ .tw i) (h : W (M.bind (denE cal mu e) frz) (fun d s' => W (denT cal mu t d) (fun _ s2 => W (denBl cal mu cs) Q s2) s') s) : W (denBl cal mu (.cons (.asg t e) cs)) Q s := by
  obtain ⟨r, s1, e1, _, s2, e2, h⟩ := h
  refine W_step (s' := s2) ?_ h
  have e3 : denAsg cal mu t e = M.bind (M.bind (denE cal mu e) frz) fun d => denT cal mu t d := by
    cases t <;> first | exact (ht _ rfl).elim | (simp only [denAsg]; done)
  rw [denS, e3]
  generalize M.bind (denE cal mu e) frz = m at e1 ⊢
  simp only [M.bind, e1, e2]
theorem W_fr {t it b cs : C} {Q : Fl → Sta → Prop} (h : W (denI cal mu it) (fun ds s1 => W (forLoop (denG cal mu t) (denBl cal mu b) ds) (fun f s2 => match f with | .nx => W (denBl cal mu cs) Q s2 | .rt r => Q (.rt r) s2) s1) s) : W (denBl cal mu (.cons (.fr t it b) cs)) Q s := by
  refine W_seq ?_
  rw [denS]
  exact W.bind h
theorem W_whl {n : Nat} {c b cs : C} {Q : Fl → Sta → Prop} (h : W (whileLoop (M.bind (denE cal mu c) asBl) (denBl cal mu b) n) (fun f s2 => match f with | .nx => W (denBl cal mu cs) Q s2 | .rt r => Q (.rt r) s2) s) : W (denBl cal mu (.cons (.whl n c b) cs)) Q s := by
  refine W_seq ?_
  rw [denS]
  exact h
end
end
end NH

set_option Elab.async false
set_option linter.all false
set_option maxRecDepth 100000
set_option maxHeartbeats 1000000
set_option autoImplicit false
namespace NH
open PySem L2
/-! ### the rules by which a text is gone through -/
def wOpt {α : Type} (o : Option α) (K : α → Prop) : Prop := match o with
  | some a => K a
  | none => False
theorem wOpt_some {α : Type} (a : α) (K : α → Prop) : wOpt (some a) K = K a := rfl
theorem wOpt_none {α : Type} (K : α → Prop) : wOpt none K = False := rfl

def wIf (b : Bool) (A B : Prop) : Prop := match b with
  | true => A
  | false => B
theorem wIf_true (A B : Prop) : wIf true A B = A := rfl
theorem wIf_false (A B : Prop) : wIf false A B = B := rfl

theorem wIf_split {b : Bool} {A B : Prop} (h1 : b = true → A) (h2 : b = false → B) : wIf b A B := by
  cases b with
  | true => exact h1 rfl
  | false => exact h2 rfl
theorem wIf_dec {p : Prop} [Decidable p] {A B : Prop} (h1 : p → A) (h2 : ¬ p → B) : wIf (decide p) A B := by
  by_cases h : p
  · rw [decide_eq_true h]; exact h1 h
  · rw [decide_eq_false h]; exact h2 h
def wpo {α : Type} (o : Out α) (Q : α → Sta → Prop) : Prop := match o with
  | .ok a s => Q a s
  | _ => False
theorem W_wpo {α : Type} (m : M α) (Q : α → Sta → Prop) (s : Sta) : W m Q s = wpo (m s) Q := by
  unfold W wpo
  cases h : m s with
  | ok a s' =>
    refine propext ⟨fun ⟨b, s2, e, q⟩ => ?_, fun q => ⟨a, s', rfl, q⟩⟩
    cases e; exact q
  | exc x s' => exact propext ⟨fun ⟨b, s2, e, q⟩ => (by cases e), fun q => q.elim⟩
  | bad => exact propext ⟨fun ⟨b, s2, e, q⟩ => (by cases e), fun q => q.elim⟩

theorem W_bindE {α β : Type} (m : M α) (f : α → M β) (Q : β → Sta → Prop) (s : Sta) : W (M.bind m f) Q s = W m (fun a s' => W (f a) Q s') s := by
  rw [W_wpo, W_wpo]
  unfold M.bind
  cases h : m s with
  | ok a s' => simp only [wpo]; rw [W_wpo]; rfl
  | exc x s' => simp only [wpo]
  | bad => simp only [wpo]
theorem W_okE {α : Type} (a : α) (Q : α → Sta → Prop) (s : Sta) : W (fun s => .ok a s) Q s = Q a s := by rw [W_wpo]; rfl
theorem W_ok1 (r : R) (Q : R → Sta → Prop) (s : Sta) : W (ok1 r) Q s = Q r s := by rw [W_wpo]; rfl
theorem W_badE {α : Type} (Q : α → Sta → Prop) (s : Sta) : W (bad : M α) Q s = False := by rw [W_wpo]; rfl
theorem W_iteE {α : Type} (p : Prop) [Decidable p] (a b : M α) (Q : α → Sta → Prop) (s : Sta) : W (if p then a else b) Q s = wIf (decide p) (W a Q s) (W b Q s) := by
  by_cases h : p
  · rw [if_pos h, decide_eq_true h]; rfl
  · rw [if_neg h, decide_eq_false h]; rfl
/-- what stands behind a row -/
def kSeq (cal : Cal) (mu : List Nat) (cs : C) (Q : Fl → Sta → Prop) (f : Fl) (s : Sta) : Prop := match f with
  | .nx => W (denBl cal mu cs) Q s
  | .rt r => Q (.rt r) s
section
variable {cal : Cal} {mu : List Nat} {s : Sta} {σ : List Sl} {st : List O}
theorem kSeq_nx {cs : C} {Q : Fl → Sta → Prop} : kSeq cal mu cs Q .nx s = W (denBl cal mu cs) Q s := rfl
theorem kSeq_rt {cs : C} {Q : Fl → Sta → Prop} {r : R} : kSeq cal mu cs Q (.rt r) s = Q (.rt r) s := rfl
theorem kSeq_nil {Q : Fl → Sta → Prop} {f : Fl} : kSeq cal mu .nil Q f s = Q f s := by
  cases f with
  | nx => unfold kSeq; simp only; rw [W_wpo, denBl]; rfl
  | rt r => rfl
variable {Q : Fl → Sta → Prop} {E : R → Sta → Prop}
theorem wB_nil : W (denBl cal mu .nil) Q s = Q .nx s := by rw [W_wpo, denBl]; rfl
theorem wB_cons {c cs : C} : W (denBl cal mu (.cons c cs)) Q s = W (denS cal mu c) (kSeq cal mu cs Q) s := by
  rw [denBl, W_bindE]
  congr 1
  funext f s'
  cases f with
  | nx => rfl
  | rt r => simp only [kSeq_rt, W_okE]
theorem wS_tw {i : Nat} {e : C} : W (denS cal mu (.asg (.tw i) e)) Q s = W (denE cal mu e) (fun r s1 => W (setW mu i r) (fun _ s2 => Q .nx s2) s1) s := by
  rw [denS]; simp only [denAsg, W_bindE, W_okE]
theorem wS_tn {i : Nat} {e : C} : W (denS cal mu (.asg (.tn i) e)) Q s = W (denE cal mu e) (fun r s1 => W (frz r) (fun d s2 => W (denT cal mu (.tn i) d) (fun _ s3 => Q .nx s3) s2) s1) s := by
  rw [denS]; simp only [denAsg, W_bindE, W_okE]
theorem wS_tt {ts e : C} : W (denS cal mu (.asg (.tt ts) e)) Q s = W (denE cal mu e) (fun r s1 => W (frz r) (fun d s2 => W (denT cal mu (.tt ts) d) (fun _ s3 => Q .nx s3) s2) s1) s := by
  rw [denS]; simp only [denAsg, W_bindE, W_okE]
theorem wS_ti {o i e : C} : W (denS cal mu (.asg (.ti o i) e)) Q s = W (denE cal mu e) (fun r s1 => W (frz r) (fun d s2 => W (denT cal mu (.ti o i) d) (fun _ s3 => Q .nx s3) s2) s1) s := by
  rw [denS]; simp only [denAsg, W_bindE, W_okE]
theorem wS_par {ts es : C} : W (denS cal mu (.par ts es)) Q s = W (denA cal mu es) (fun rs s1 => W (denWs mu ts rs) (fun _ s2 => Q .nx s2) s1) s := by
  rw [denS]; simp only [W_bindE, W_okE]
theorem wS_ex {e : C} : W (denS cal mu (.ex e)) Q s = W (denE cal mu e) (fun _ s1 => Q .nx s1) s := by
  rw [denS]; simp only [W_bindE, W_okE]
theorem wS_ret {e : C} : W (denS cal mu (.ret e)) Q s = W (denE cal mu e) (fun r s1 => Q (.rt r) s1) s := by
  rw [denS]; simp only [W_bindE, W_okE]
/-- one of two ways -/
def wBr (cal : Cal) (mu : List Nat) (a b : C) (Q : Fl → Sta → Prop) (k : Bool) (s : Sta) : Prop := match k with
  | true => W (denBl cal mu a) Q s
  | false => W (denBl cal mu b) Q s
theorem wBr_true {a b : C} : wBr cal mu a b Q true s = W (denBl cal mu a) Q s := rfl
theorem wBr_false {a b : C} : wBr cal mu a b Q false s = W (denBl cal mu b) Q s := rfl
theorem wBr_split {a b : C} {k : Bool} (h1 : k = true → W (denBl cal mu a) Q s) (h2 : k = false → W (denBl cal mu b) Q s) : wBr cal mu a b Q k s := by
  cases k with
  | true => exact h1 rfl
  | false => exact h2 rfl
theorem wBr_dec {a b : C} {p : Prop} [Decidable p] (h1 : p → W (denBl cal mu a) Q s) (h2 : ¬ p → W (denBl cal mu b) Q s) : wBr cal mu a b Q (decide p) s := by
  by_cases h : p
  · rw [decide_eq_true h]; exact h1 h
  · rw [decide_eq_false h]; exact h2 h
theorem wS_ite {c a b : C} : W (denS cal mu (.ite c a b)) Q s = W (denE cal mu c) (fun r s1 => W (asBl r) (fun k s2 => wBr cal mu a b Q k s2) s1) s := by
  rw [denS]; simp only [W_bindE]
  congr 1; funext r s1; congr 1; funext k s2
  cases k <;> rfl
/-- and, or: on or done -/
def wBo (cal : Cal) (mu : List Nat) (an : Bool) (es : C) (E : R → Sta → Prop) (k : Bool) (s : Sta) : Prop := if k = an then W (denB cal mu an es) E s else E (.val (.bl k)) s
theorem wBo_on {an : Bool} {es : C} : wBo cal mu an es E an s = W (denB cal mu an es) E s := by simp only [wBo, if_true]
theorem wBo_and {es : C} : wBo cal mu true es E false s = E (.val (.bl false)) s := by simp [wBo]
theorem wBo_or {es : C} : wBo cal mu false es E true s = E (.val (.bl true)) s := by simp [wBo]
theorem wBo_andD {es : C} {p : Prop} [Decidable p] (h1 : p → W (denB cal mu true es) E s) (h2 : ¬ p → E (.val (.bl false)) s) : wBo cal mu true es E (decide p) s := by
  by_cases h : p
  · rw [decide_eq_true h, wBo_on]; exact h1 h
  · rw [decide_eq_false h, wBo_and]; exact h2 h
theorem wBo_orD {es : C} {p : Prop} [Decidable p] (h1 : p → E (.val (.bl true)) s) (h2 : ¬ p → W (denB cal mu false es) E s) : wBo cal mu false es E (decide p) s := by
  by_cases h : p
  · rw [decide_eq_true h, wBo_or]; exact h1 h
  · rw [decide_eq_false h, wBo_on]; exact h2 h
theorem wS_fr {t it b : C} : W (denS cal mu (.fr t it b)) Q s = W (denI cal mu it) (fun ds s1 => W (forLoop (denG cal mu t) (denBl cal mu b) ds) Q s1) s := by
  rw [denS]; simp only [W_bindE]
theorem wS_whl {n : Nat} {c b : C} : W (denS cal mu (.whl n c b)) Q s = W (whileLoop (M.bind (denE cal mu c) asBl) (denBl cal mu b) n) Q s := by
  rw [denS]
/-! expressions -/
theorem wE_non : W (denE cal mu .non) E s = E (.val .non) s := by rw [W_wpo, denE]; rfl
theorem wE_bl {b : Bool} : W (denE cal mu (.bl b)) E s = E (.val (.bl b)) s := by rw [W_wpo, denE]; rfl
theorem wE_int {b : Int} : W (denE cal mu (.int b)) E s = E (.val (.int b)) s := by rw [W_wpo, denE]; rfl
theorem wE_str {b : Str} : W (denE cal mu (.str b)) E s = E (.val (.str b)) s := by rw [W_wpo, denE]; rfl
theorem wE_glo {x : Str} {d : D} : W (denE cal mu (.glo x d)) E s = E (.val d) s := by rw [W_wpo, denE]; rfl
def wVar (i : Nat) (o : Option Sl) (E : R → Prop) : Prop := match o with
  | some (.val d) => E (.val d)
  | some (.own _) => E (.slot i)
  | _ => False

theorem wVar_val {i : Nat} {d : D} {K : R → Prop} : wVar i (some (.val d)) K = K (.val d) := rfl
theorem wVar_own {i : Nat} {d : O} {K : R → Prop} : wVar i (some (.own d)) K = K (.slot i) := rfl
theorem wE_var {i : Nat} : W (denE cal mu (.var i)) E s = wVar i s.σ[i]? (fun r => E r s) := by
  rw [W_wpo, denE]
  cases h : s.σ[i]? with
  | none => simp only [h, wpo, wVar]
  | some x => cases x <;> simp only [h, wpo, wVar]
theorem wE_tup {es : C} : W (denE cal mu (.tup es)) E s = W (denD cal mu es) (fun ds s1 => ds.length ≤ 1000 ∧ E (.val (.tup ds)) s1) s := by
  rw [denE, W_bindE]
  congr 1; funext ds s1
  split
  · rename_i h; simp only [W_ok1, h, true_and]
  · rename_i h; simp only [W_badE, h, false_and]
theorem wE_lst {es : C} : W (denE cal mu (.lst es)) E s = W (denD cal mu es) (fun ds s1 => ds.length ≤ 1000 ∧ E (.new (.lst ds)) s1) s := by
  rw [denE, W_bindE]
  congr 1; funext ds s1
  split
  · rename_i h; simp only [W_ok1, h, true_and]
  · rename_i h; simp only [W_badE, h, false_and]
theorem wE_dnewT : W (denE cal mu (.dnew true)) E s = E (.new (.dt [])) s := by rw [W_wpo, denE]; rfl
theorem wE_dnewF : W (denE cal mu (.dnew false)) E s = E (.new (.dk [])) s := by rw [W_wpo, denE]; rfl
theorem W_liftR {o : Option R} : W (liftR o) E s = wOpt o (fun r => E r s) := by
  rw [W_wpo]; cases o <;> rfl
theorem W_liftO {α : Type} {o : Option α} {K : α → Sta → Prop} : W (liftO o) K s = wOpt o (fun r => K r s) := by
  rw [W_wpo]; cases o <;> rfl
theorem wE_disp {t : Bool} {ks vs : C} : W (denE cal mu (.disp t ks vs)) E s = W (denD cal mu ks) (fun ds s1 => wOpt (dispR ds) (fun r => E r s1)) s := by
  rw [denE, W_bindE]; simp only [W_liftR]
theorem W_bin {op : Bop} {x y : R} : W (bin op x y) E s = wOpt (deref s x) fun a => wOpt (deref s y) fun b => wOpt (binCt op a b) fun r => E r s := by
  rw [W_wpo]; unfold bin
  cases deref s x with
  | none => rfl
  | some a => cases deref s y with
    | none => rfl
    | some b => simp only [wOpt_some, ← W_wpo]; exact W_liftR
theorem W_cmp {op : Cop} {x y : R} : W (cmp op x y) E s = wOpt (deref s x) fun a => wOpt (deref s y) fun b => wOpt (cmpCt op a b) fun r => E (.val (.bl r)) s := by
  rw [W_wpo]; unfold cmp
  cases deref s x with
  | none => rfl
  | some a => cases deref s y with
    | none => rfl
    | some b => simp only [wOpt_some, ← W_wpo]; rw [W_liftR]; cases cmpCt op a b <;> rfl
theorem W_idx {x y : R} : W (idx x y) E s = wOpt (deref s x) fun a => wOpt (deref s y) fun b => wOpt (idxCt a b) fun r => E (.val r) s := by
  rw [W_wpo]; unfold idx
  cases deref s x with
  | none => rfl
  | some a => cases deref s y with
    | none => rfl
    | some b => simp only [wOpt_some, ← W_wpo]; rw [W_liftR]; cases idxCt a b <;> rfl
theorem W_slc {x : R} {lo hi : Option Int} : W (slc x lo hi) E s = wOpt (deref s x) fun a => wOpt (slcCt a lo hi) fun r => E r s := by
  rw [W_wpo]; unfold slc
  cases deref s x with
  | none => rfl
  | some a => simp only [wOpt_some, ← W_wpo]; exact W_liftR
theorem W_blt {f : Blt} {rs : List R} : W (blt f rs) E s = wOpt (derefs s rs) fun cs => wOpt (bltCt f cs) fun r => E r s := by
  rw [W_wpo]; unfold blt
  cases derefs s rs with
  | none => rfl
  | some a => simp only [wOpt_some, ← W_wpo]; exact W_liftR
theorem W_asInt {r : R} {K : Int → Sta → Prop} : W (asInt r) K s = wOpt (deref s r) fun c => wOpt (intCt c) fun i => K i s := by
  rw [W_wpo]; unfold asInt
  cases deref s r with
  | none => rfl
  | some c => cases c with
    | o o => rfl
    | d d => cases d <;> rfl
def blR (s : Sta) : R → Option Bool
  | .val (.bl b) => some b
  | .slot i => match s.σ[i]? with
    | some (.val (.bl b)) => some b
    | _ => none
  | _ => none
theorem blR_val {b : Bool} : blR s (.val (.bl b)) = some b := rfl
theorem W_asBl {r : R} {K : Bool → Sta → Prop} : W (asBl r) K s = wOpt (blR s r) fun b => K b s := by
  rw [W_wpo]; unfold asBl blR
  cases r with
  | val d => cases d <;> rfl
  | new o => rfl
  | slot i =>
    simp only
    cases s.σ[i]? with
    | none => rfl
    | some x => cases x with
      | no => rfl
      | own o => rfl
      | val d => cases d <;> rfl
theorem wE_bin {op : Bop} {a b : C} : W (denE cal mu (.bin op a b)) E s = W (denE cal mu a) (fun x s1 => W (denE cal mu b) (fun y s2 => W (bin op x y) E s2) s1) s := by
  rw [denE]; simp only [W_bindE]
theorem wE_neg {a : C} : W (denE cal mu (.neg a)) E s = W (denE cal mu a) (fun x s1 => W (asInt x) (fun i s2 => E (.val (.int (-i))) s2) s1) s := by
  rw [denE]; simp only [W_bindE, W_ok1]
theorem wE_cmp {op : Cop} {a b : C} : W (denE cal mu (.cmp op a b)) E s = W (denE cal mu a) (fun x s1 => W (denE cal mu b) (fun y s2 => W (cmp op x y) E s2) s1) s := by
  rw [denE]; simp only [W_bindE]
theorem wE_cmp2 {op op' : Cop} {a b c : C} : W (denE cal mu (.cmp2 op op' a b c)) E s = W (denE cal mu a) (fun x s1 => W (denE cal mu b) (fun y s2 => W (cmp op x y) (fun z s3 => W (asBl z) (fun k s4 => wIf k (W (denE cal mu c) (fun w s5 => W (cmp op' y w) E s5) s4) (E (.val (.bl false)) s4)) s3) s2) s1) s := by
  rw [denE]; simp only [W_bindE, W_iteE, W_ok1, Bool.decide_eq_true]
theorem wE_boo {an : Bool} {es : C} : W (denE cal mu (.boo an es)) E s = W (denB cal mu an es) E s := by rw [denE]
theorem wB_last {an : Bool} {e : C} : W (denB cal mu an (.cons e .nil)) E s = W (denE cal mu e) E s := by rw [denB]
theorem wB_more {an : Bool} {e f es : C} : W (denB cal mu an (.cons e (.cons f es))) E s = W (denE cal mu e) (fun x s1 => W (asBl x) (fun b s2 => wBo cal mu an (.cons f es) E b s2) s1) s := by
  rw [denB]; simp only [W_bindE]
  congr 1; funext x s1; congr 1; funext b s2
  unfold wBo
  split
  · rfl
  · rw [W_ok1]
  · intro h; cases h
theorem wE_not {a : C} : W (denE cal mu (.not a)) E s = W (denE cal mu a) (fun x s1 => W (asBl x) (fun b s2 => E (.val (.bl (!b))) s2) s1) s := by
  rw [denE]; simp only [W_bindE, W_ok1]
theorem wE_idx {a b : C} : W (denE cal mu (.idx a b)) E s = W (denE cal mu a) (fun x s1 => W (denE cal mu b) (fun y s2 => W (idx x y) E s2) s1) s := by
  rw [denE]; simp only [W_bindE]
theorem wE_slc {a lo hi : C} : W (denE cal mu (.slc a lo hi)) E s = W (denE cal mu a) (fun x s1 => W (denO cal mu lo) (fun l s2 => W (denO cal mu hi) (fun h s3 => W (slc x l h) E s3) s2) s1) s := by
  rw [denE]; simp only [W_bindE]
theorem wO_no {K : Option Int → Sta → Prop} : W (denO cal mu .no) K s = K none s := by rw [denO, W_okE]
theorem wO_some {e : C} {K : Option Int → Sta → Prop} (h : e ≠ .no) : W (denO cal mu e) K s = W (denE cal mu e) (fun x s1 => W (asInt x) (fun i s2 => K (some i) s2) s1) s := by
  rw [denO]
  · simp only [W_bindE, W_okE]
  · exact h
theorem wQ_no {K : Bool → Sta → Prop} : W (denQ cal mu .no) K s = K true s := by rw [denQ, W_okE]
theorem wQ_some {e : C} {K : Bool → Sta → Prop} (h : e ≠ .no) : W (denQ cal mu e) K s = W (denE cal mu e) (fun x s1 => W (asBl x) K s1) s := by
  rw [denQ]
  · simp only [W_bindE]
  · exact h
theorem wE_lc {vs : List Nat} {t it ifs e : C} : W (denE cal mu (.lc vs t it ifs e)) E s = W (denI cal mu it) (fun ds s1 => W (lcLoop vs (denG cal mu t) (denQ cal mu ifs) (M.bind (denE cal mu e) frz) ds []) (fun acc s2 => E (.new (.lst acc)) ⟨backS s1.σ s2.σ vs, s2.st⟩) s1) s := by
  rw [denE]; simp only [W_bindE]
  congr 1; funext ds s1
  rw [W_wpo, W_wpo]
  cases lcLoop vs (denG cal mu t) (denQ cal mu ifs) (M.bind (denE cal mu e) frz) ds [] s1 <;> rfl
theorem wE_fz {e : C} : W (denE cal mu (.fz e)) E s = W (denE cal mu e) (fun r s1 => W (frz r) (fun d s2 => E (.val d) s2) s1) s := by
  rw [denE]; simp only [W_bindE, W_ok1]
theorem wE_stt {e : C} : W (denE cal mu (.stt e)) E s = W (denE cal mu e) (fun r s1 => W (alloc r) E s1) s := by
  rw [denE]; simp only [W_bindE]
theorem wE_call {f : Str} {es : C} : W (denE cal mu (.call f es)) E s = W (denC cal mu es) (fun p s1 => W (doCall cal f p.1 p.2) E s1) s := by
  rw [denE]; simp only [W_bindE]
theorem wE_blt {f : Blt} {es : C} : W (denE cal mu (.blt f es)) E s = W (denA cal mu es) (fun rs s1 => W (blt f rs) E s1) s := by
  rw [denE]; simp only [W_bindE]
theorem wE_mth {m : Mth} {o es : C} : W (denE cal mu (.mth m o es)) E s = W (denE cal mu o) (fun r s1 => W (kindM m r) (fun T s2 => W (denD cal mu es) (fun ds s3 => W (mth m T r ds) E s3) s2) s1) s := by
  rw [denE]; simp only [W_bindE]
theorem W_kindM {m : Mth} {r : R} {K : String → Sta → Prop} : W (kindM m r) K s = wOpt ((deref s r).bind (mthT m)) fun T => K T s := by
  rw [W_wpo]; unfold kindM
  cases (deref s r).bind (mthT m) <;> rfl
theorem wD_nil {K : List D → Sta → Prop} : W (denD cal mu .nil) K s = K [] s := by rw [denD, W_okE]
theorem wD_cons {e es : C} {K : List D → Sta → Prop} : W (denD cal mu (.cons e es)) K s = W (denE cal mu e) (fun r s1 => W (frz r) (fun d s2 => W (denD cal mu es) (fun ds s3 => K (d :: ds) s3) s2) s1) s := by
  rw [denD]; simp only [W_bindE, W_okE]
theorem wA_nil {K : List R → Sta → Prop} : W (denA cal mu .nil) K s = K [] s := by rw [denA, W_okE]
theorem wA_cons {e es : C} {K : List R → Sta → Prop} : W (denA cal mu (.cons e es)) K s = W (denE cal mu e) (fun d s2 => W (denA cal mu es) (fun ds s3 => K (d :: ds) s3) s2) s := by
  rw [denA]; simp only [W_bindE, W_okE]
theorem wC_nil {K : List Ar × List Nat → Sta → Prop} : W (denC cal mu .nil) K s = K ([], []) s := by rw [denC, W_okE]
theorem wC_mv {i : Nat} {es : C} {K : List Ar × List Nat → Sta → Prop} : W (denC cal mu (.cons (.mv i) es)) K s = W (takeOwn i) (fun o s1 => W (denC cal mu es) (fun p s2 => K (.own o :: p.1, i :: p.2) s2) s1) s := by
  rw [denC]; simp only [W_bindE, W_okE]
theorem wC_mw {e es : C} {K : List Ar × List Nat → Sta → Prop} : W (denC cal mu (.cons (.mw e) es)) K s = W (denE cal mu e) (fun r s1 => W (newO r) (fun o s2 => W (denC cal mu es) (fun p s3 => K (.own o :: p.1, s3.σ.length :: p.2) s3) s2) s1) s := by
  rw [denC, W_bindE, W_bindE]
  congr 1; funext r s1; congr 1; funext o s2
  rw [W_bindE]
  congr 1; funext p s3
  rw [W_wpo]; rfl
theorem W_newO {o : O} {K : O → Sta → Prop} : W (newO (.new o)) K s = K o s := by rw [W_wpo]; rfl
theorem wC_cons {e es : C} {K : List Ar × List Nat → Sta → Prop} (h : ∀ i, e ≠ .mv i) (h2 : ∀ i, e ≠ .mw i) : W (denC cal mu (.cons e es)) K s = W (denE cal mu e) (fun r s1 => W (frz r) (fun d s2 => W (denC cal mu es) (fun p s3 => K (.val d :: p.1, p.2) s3) s2) s1) s := by
  rw [denC]
  · simp only [W_bindE, W_okE]
  · exact h
  · exact h2
theorem wI_rng {es : C} {K : List Itm → Sta → Prop} : W (denI cal mu (.irng es)) K s = W (denD cal mu es) (fun ds s1 => wOpt (rngD ds) fun its => K its s1) s := by
  rw [denI]; simp only [W_bindE, W_liftO]
theorem wI_seq {e : C} {K : List Itm → Sta → Prop} : W (denI cal mu (.iseq e)) K s = W (denE cal mu e) (fun r s1 => W (frz r) (fun d s2 => wOpt (itemsD d) fun ds => K (ds.map Itm.v) s2) s1) s := by
  rw [denI]; simp only [W_bindE, W_liftO]
  congr 1; funext r s1; congr 1; funext d s2
  cases itemsD d <;> rfl
theorem wI_enum {e : C} {K : List Itm → Sta → Prop} : W (denI cal mu (.ienum e)) K s = W (denE cal mu e) (fun r s1 => W (frz r) (fun d s2 => wOpt (itemsD d) fun ds => K (enumFrom 0 ds) s2) s1) s := by
  rw [denI]; simp only [W_bindE, W_liftO, W_okE, one, Option.bind_some]
  congr 1; funext r s1; congr 1; funext d s2
  cases itemsD d <;> rfl
theorem wI_zip {a b : C} {K : List Itm → Sta → Prop} : W (denI cal mu (.izip a b)) K s = W (denE cal mu a) (fun r s1 => W (frz r) (fun d s2 => W (denE cal mu b) (fun r' s3 => W (frz r') (fun d' s4 => wOpt (bothD d d') fun q => K (zipD q.1 q.2) s4) s3) s2) s1) s := by
  rw [denI]; simp only [W_bindE, W_liftO, W_okE, two, Option.bind_some]
  congr 1; funext r s1; congr 1; funext d s2; congr 1; funext r s3; congr 1; funext d' s4
  cases bothD d d' <;> rfl
theorem wI_str {e : C} {K : List Itm → Sta → Prop} : W (denI cal mu (.istr e)) K s = W (denE cal mu e) (fun r s1 => W (frz r) (fun d s2 => wOpt (strD d) fun ds => K ds s2) s1) s := by
  rw [denI]; simp only [W_bindE, W_liftO]
variable {U : Unit → Sta → Prop}
theorem wG_tn {i : Nat} {d : D} : W (denG cal mu (.tn i) (.v d)) U s = W (setSlot mu i (.val d)) U s := by rw [denG]
theorem wG_ttv {ts : C} {d : D} : W (denG cal mu (.tt ts) (.v d)) U s = wOpt (itemsD d) fun ds => W (denTs cal mu ts ds) U s := by
  rw [denG]; simp only [W_bindE, W_liftO]
theorem wG_ttp {ts : C} {a b : D} : W (denG cal mu (.tt ts) (.p a b)) U s = W (denTs cal mu ts [a, b]) U s := by rw [denG]
theorem wT_tn {i : Nat} {d : D} : W (denT cal mu (.tn i) d) U s = W (setSlot mu i (.val d)) U s := by rw [denT]
theorem wT_tt {ts : C} {d : D} : W (denT cal mu (.tt ts) d) U s = wOpt (itemsD d) fun ds => W (denTs cal mu ts ds) U s := by
  rw [denT]; simp only [W_bindE, W_liftO]
theorem wT_ti {o i : C} {d : D} : W (denT cal mu (.ti o i) d) U s = W (denE cal mu o) (fun p s1 => W (denE cal mu i) (fun r s2 => W (frz r) (fun k s3 => W (setItem p k d) U s3) s2) s1) s := by
  rw [denT]; simp only [W_bindE]
theorem wTs_nil : W (denTs cal mu .nil []) U s = U () s := by rw [W_wpo, denTs]; rfl
theorem wTs_cons {t ts : C} {d : D} {ds : List D} : W (denTs cal mu (.cons t ts) (d :: ds)) U s = W (denT cal mu t d) (fun _ s1 => W (denTs cal mu ts ds) U s1) s := by
  rw [denTs]; simp only [W_bindE]
theorem W_setSlot {i : Nat} {x : Sl} : W (setSlot mu i x) U s = ((i < s.σ.length ∧ i ∉ mu) ∧ U () ⟨s.σ.set i x, s.st⟩) := by
  rw [W_wpo]; unfold setSlot
  split
  · rename_i h; simp only [wpo, h, true_and, not_false_eq_true]
  · rename_i h; simp only [wpo, h, false_and]
theorem W_setW_new {i : Nat} {o : O} : W (setW mu i (.new o)) U s = ((i < s.σ.length ∧ i ∉ mu) ∧ U () ⟨s.σ.set i (.own o), s.st⟩) := W_setSlot
theorem W_setW_val {i : Nat} {d : D} : W (setW mu i (.val d)) U s = ((i < s.σ.length ∧ i ∉ mu) ∧ U () ⟨s.σ.set i (.val d), s.st⟩) := W_setSlot
theorem wWs_nil : W (denWs mu .nil []) U s = U () s := by rw [W_wpo]; unfold denWs; rfl
theorem wWs_cons {i : Nat} {ts : C} {r : R} {rs : List R} : W (denWs mu (.cons (.tw i) ts) (r :: rs)) U s = W (setW mu i r) (fun _ s1 => W (denWs mu ts rs) U s1) s := by
  rw [denWs]; simp only [W_bindE]
variable {KD : D → Sta → Prop}
theorem W_frz_val {d : D} : W (frz (.val d)) KD s = KD d s := by rw [W_wpo]; rfl
theorem W_frz_new {xs : List D} : W (frz (.new (.lst xs))) KD s = KD (.lst xs) s := by rw [W_wpo]; rfl
def wFrz (i : Nat) (o : Option Sl) (s : Sta) (K : D → Sta → Prop) : Prop := match o with
  | some (.own (.lst xs)) => K (.lst xs) ⟨s.σ.set i (.val (.lst xs)), s.st⟩
  | some (.val d) => K d s
  | _ => False

theorem wFrz_own {i : Nat} {xs : List D} : wFrz i (some (.own (.lst xs))) s KD = KD (.lst xs) ⟨s.σ.set i (.val (.lst xs)), s.st⟩ := rfl
theorem wFrz_val {i : Nat} {d : D} : wFrz i (some (.val d)) s KD = KD d s := rfl
theorem W_frz_slot {i : Nat} : W (frz (.slot i)) KD s = wFrz i s.σ[i]? s KD := by
  rw [W_wpo]; unfold frz wFrz
  simp only
  cases s.σ[i]? with
  | none => rfl
  | some x => cases x with
    | no => rfl
    | val d => rfl
    | own o => cases o <;> rfl
theorem W_alloc {o : O} : W (alloc (.new o)) E s = E (.val (.ref s.st.length)) ⟨s.σ, s.st ++ [o]⟩ := by rw [W_wpo]; rfl
def ownO : Option Sl → Option O
  | some (.own o) => some o
  | _ => none
theorem ownO_own {o : O} : ownO (some (.own o)) = some o := rfl
theorem W_takeOwn {i : Nat} {K : O → Sta → Prop} : W (takeOwn i) K s = wOpt (ownO s.σ[i]?) fun o => K o ⟨s.σ.set i .no, s.st⟩ := by
  rw [W_wpo]; unfold takeOwn ownO
  cases s.σ[i]? with
  | none => rfl
  | some x => cases x <;> rfl
/-- an object put in the place of what was there -/
def putPl (r : R) (o : O) (s : Sta) : Option Sta := match r with
  | .slot i => match s.σ[i]? with
    | some (.own _) => some ⟨s.σ.set i (.own o), s.st⟩
    | some (.val (.ref n)) => if n < s.st.length then some ⟨s.σ, s.st.set n o⟩ else none
    | _ => none
  | .val (.ref n) => if n < s.st.length then some ⟨s.σ, s.st.set n o⟩ else none
  | _ => none
theorem W_setPl {r : R} {o : O} : W (setPl r o) U s = wOpt (putPl r o s) fun s' => U () s' := by
  rw [W_wpo]; unfold setPl putPl
  cases r with
  | new o => rfl
  | val d =>
    cases d <;> first | rfl | skip
    simp only
    split <;> rfl
  | slot i =>
    simp only
    cases s.σ[i]? with
    | none => rfl
    | some x => cases x with
      | no => rfl
      | own o => rfl
      | val d =>
        cases d <;> first | rfl | skip
        simp only
        split <;> rfl
def slPut (i : Nat) (o : O) (x : Option Sl) (s : Sta) : Option Sta := match x with
    | some (.own _) => some ⟨s.σ.set i (.own o), s.st⟩
    | some (.val (.ref n)) => if n < s.st.length then some ⟨s.σ, s.st.set n o⟩ else none
    | _ => none
theorem slPut_own {i : Nat} {o p : O} : slPut i o (some (.own p)) s = some ⟨s.σ.set i (.own o), s.st⟩ := rfl
theorem slPut_ref {i : Nat} {o : O} {n : Nat} (h : n < s.st.length) : slPut i o (some (.val (.ref n))) s = some ⟨s.σ, s.st.set n o⟩ := by
  simp only [slPut, h, if_true]
theorem putPl_slot {i : Nat} {o : O} : putPl (.slot i) o s = slPut i o s.σ[i]? s := rfl
theorem putPl_ref {n : Nat} {o : O} (h : n < s.st.length) : putPl (.val (.ref n)) o s = some ⟨s.σ, s.st.set n o⟩ := by
  simp only [putPl, h, if_true]
def objO : Option Ct → Option O
  | some (.o o) => some o
  | _ => none
theorem objO_o {o : O} : objO (some (.o o)) = some o := rfl
theorem W_setItem {r : R} {k v : D} : W (setItem r k v) U s = wOpt (objO (deref s r)) fun o => wOpt (setO o k v) fun o' => wOpt (putPl r o' s) fun s' => U () s' := by
  rw [W_wpo]; unfold setItem objO
  cases deref s r with
  | none => rfl
  | some c => cases c with
    | d d => rfl
    | o o =>
      simp only [wOpt_some]
      cases setO o k v with
      | none => rfl
      | some o' => simp only [wOpt_some]; rw [← W_wpo, W_setPl]
/-- a method that changes -/
theorem W_mthMut {m : Mth} {T : String} {r : R} {ds : List D} (hm : m.muts = true) : W (mth m T r ds) E s = wOpt (deref s r) fun c => mthT m c = some T ∧ wOpt (objO (some c)) fun o => wOpt (mutO m o ds) fun p => wOpt (putPl r p.1 s) fun s' => E (.val p.2) s' := by
  rw [W_wpo]; unfold mth
  cases deref s r with
  | none => rfl
  | some c =>
    simp only [wOpt_some, hm, if_true]
    split
    · rename_i h
      simp only [h, true_and]
      cases c with
      | d d => rfl
      | o o =>
        simp only [objO, wOpt_some]
        cases mutO m o ds with
        | none => rfl
        | some p => simp only [wOpt_some, ← W_wpo]; rw [W_bindE, W_setPl]; congr 1; funext s'; exact W_ok1 _ _ _
    · rename_i h
      simp only [h, false_and]; rfl
theorem W_mthAsk {m : Mth} {T : String} {r : R} {ds : List D} (hm : m.muts = false) : W (mth m T r ds) E s = wOpt (deref s r) fun c => mthT m c = some T ∧ wOpt (askO m c ds) fun a => E a s := by
  rw [W_wpo]; unfold mth
  cases deref s r with
  | none => rfl
  | some c =>
    simp only [wOpt_some, hm, Bool.false_eq_true, if_false]
    split
    · rename_i h
      simp only [h, true_and, ← W_wpo]; exact W_liftR
    · rename_i h
      simp only [h, false_and]; rfl
/-- a call -/
def wCO (c : CO) (K : Rt → List O → List O → Prop) : Prop := match c with
  | .ok r os st => K r os st
  | .bad => False

theorem wCO_ok {r : Rt} {os st : List O} {K : Rt → List O → List O → Prop} : wCO (.ok r os st) K = K r os st := rfl
theorem W_doCall {f : Str} {as : List Ar} {l : List Nat} : W (doCall cal f as l) E s = wCO (cal f as s.st) fun r os st' => wOpt (backO l os ⟨s.σ, st'⟩) fun s' => E (rOf r) s' := by
  rw [W_wpo]; unfold doCall
  cases cal f as s.st with
  | bad => rfl
  | ok r os st' =>
    simp only [wCO]
    cases backO l os ⟨s.σ, st'⟩ <;> rfl
theorem wCO_mono {c : CO} {K K' : Rt → List O → List O → Prop} (h : wCO c K) (k : ∀ r os st, K r os st → K' r os st) : wCO c K' := by
  cases c with
  | ok r os st => exact k r os st h
  | bad => exact h.elim
theorem wCO_run {fd : Fd} {as : List Ar} {K : Rt → List O → List O → Prop} (hl : as.length = fd.n ∧ ownPlaces as = fd.m ∧ fd.n ≤ fd.k)
    (h : W (denBl cal fd.m fd.body) (fun f s => wOpt (match f with | .nx => some (Rt.val .non) | .rt x => endR fd.m s x) fun r => wOpt (outsOf s.σ fd.m) fun os => K r os s.st) ⟨as.map slOf ++ List.replicate (fd.k - fd.n) .no, st⟩) :
    wCO (runFd cal fd as st) K := by
  obtain ⟨f, s, e, h⟩ := h
  unfold runFd
  rw [if_pos hl, e]
  cases f with
  | nx =>
    simp only [wOpt_some] at h ⊢
    cases ho : outsOf s.σ fd.m with
    | none => rw [ho] at h; exact h.elim
    | some os => rw [ho] at h; exact h
  | rt x =>
    simp only at h ⊢
    cases hr : endR fd.m s x with
    | none => rw [hr] at h; exact h.elim
    | some r =>
      rw [hr] at h
      simp only [wOpt_some] at h ⊢
      cases ho : outsOf s.σ fd.m with
      | none => rw [ho] at h; exact h.elim
      | some os => rw [ho] at h; exact h
theorem W_conseq {α : Type} {m : M α} {Q Q' : α → Sta → Prop} (h : W m Q s) (k : ∀ a s', Q a s' → Q' a s') : W m Q' s := W.mono h k
end
end NH

set_option Elab.async false
set_option linter.all false
set_option maxRecDepth 100000
set_option maxHeartbeats 1000000
set_option autoImplicit false
namespace NH
open PySem L2
/-- keeps simp out of what stands behind -/
structure Seal {β : Type} (q : β) : Type where
def V {α : Type} (m : M α) (Q : α → Sta → Prop) (s : Sta) (k : Seal Q := {}) : Prop := W m Q s
def vOpt {α : Type} (o : Option α) (K : α → Prop) (k : Seal K := {}) : Prop := wOpt o K
def vIf (b : Bool) (A B : Prop) (ka : Seal A := {}) (kb : Seal B := {}) : Prop := wIf b A B
def vVar (i : Nat) (o : Option Sl) (K : R → Prop) (k : Seal K := {}) : Prop := wVar i o K
def vFrz (i : Nat) (o : Option Sl) (s : Sta) (K : D → Sta → Prop) (k : Seal K := {}) : Prop := wFrz i o s K
def vCO (c : CO) (K : Rt → List O → List O → Prop) (k : Seal K := {}) : Prop := wCO c K
def vBr (cal : Cal) (mu : List Nat) (a b : C) (Q : Fl → Sta → Prop) (k : Bool) (s : Sta) (q : Seal Q := {}) : Prop := wBr cal mu a b Q k s
def vBo (cal : Cal) (mu : List Nat) (an : Bool) (es : C) (E : R → Sta → Prop) (k : Bool) (s : Sta) (q : Seal E := {}) : Prop := wBo cal mu an es E k s
def vSeq (cal : Cal) (mu : List Nat) (cs : C) (Q : Fl → Sta → Prop) (f : Fl) (s : Sta) : Prop := kSeq cal mu cs Q f s
section
variable {cal : Cal} {mu : List Nat} {s : Sta} {σ : List Sl} {st : List O}
variable {Q : Fl → Sta → Prop} {E : R → Sta → Prop} {U : Unit → Sta → Prop} {KD : D → Sta → Prop}
theorem V.mono {α : Type} {m : M α} {Q Q' : α → Sta → Prop} {s : Sta} (h : V m Q s) (k : ∀ a s', Q a s' → Q' a s') : V m Q' s := W.mono h k
theorem v_wOpt_some {α : Type} (a : α) (K : α → Prop) : vOpt (some a) K = K a := wOpt_some _ _
theorem v_wOpt_none {α : Type} (K : α → Prop) : vOpt none K = False := wOpt_none _
theorem v_wIf_true (A B : Prop) : vIf true A B = A := wIf_true _ _
theorem v_wIf_false (A B : Prop) : vIf false A B = B := wIf_false _ _
theorem v_wIf_split {b : Bool} {A B : Prop} (h1 : b = true → A) (h2 : b = false → B) : vIf b A B := wIf_split h1 h2
theorem v_wIf_dec {p : Prop} [Decidable p] {A B : Prop} (h1 : p → A) (h2 : ¬ p → B) : vIf (decide p) A B := wIf_dec h1 h2
theorem v_W_bindE {α β : Type} (m : M α) (f : α → M β) (Q : β → Sta → Prop) (s : Sta) : V (M.bind m f) Q s = V m (fun a s' => V (f a) Q s') s := W_bindE _ _ _ _
theorem v_W_okE {α : Type} (a : α) (Q : α → Sta → Prop) (s : Sta) : V (fun s => .ok a s) Q s = Q a s := W_okE _ _ _
theorem v_W_ok1 (r : R) (Q : R → Sta → Prop) (s : Sta) : V (ok1 r) Q s = Q r s := W_ok1 _ _ _
theorem v_W_badE {α : Type} (Q : α → Sta → Prop) (s : Sta) : V (bad : M α) Q s = False := W_badE _ _
theorem v_kSeq_nx {cs : C} {Q : Fl → Sta → Prop} : vSeq cal mu cs Q .nx s = V (denBl cal mu cs) Q s := kSeq_nx
theorem v_kSeq_rt {cs : C} {Q : Fl → Sta → Prop} {r : R} : vSeq cal mu cs Q (.rt r) s = Q (.rt r) s := kSeq_rt
theorem v_kSeq_nil {Q : Fl → Sta → Prop} {f : Fl} : vSeq cal mu .nil Q f s = Q f s := kSeq_nil
theorem v_wB_nil : V (denBl cal mu .nil) Q s = Q .nx s := wB_nil
theorem v_wB_cons {c cs : C} : V (denBl cal mu (.cons c cs)) Q s = V (denS cal mu c) (vSeq cal mu cs Q) s := wB_cons
theorem v_wS_tw {i : Nat} {e : C} : V (denS cal mu (.asg (.tw i) e)) Q s = V (denE cal mu e) (fun r s1 => V (setW mu i r) (fun _ s2 => Q .nx s2) s1) s := wS_tw
theorem v_wS_tn {i : Nat} {e : C} : V (denS cal mu (.asg (.tn i) e)) Q s = V (denE cal mu e) (fun r s1 => V (frz r) (fun d s2 => V (denT cal mu (.tn i) d) (fun _ s3 => Q .nx s3) s2) s1) s := wS_tn
theorem v_wS_tt {ts e : C} : V (denS cal mu (.asg (.tt ts) e)) Q s = V (denE cal mu e) (fun r s1 => V (frz r) (fun d s2 => V (denT cal mu (.tt ts) d) (fun _ s3 => Q .nx s3) s2) s1) s := wS_tt
theorem v_wS_ti {o i e : C} : V (denS cal mu (.asg (.ti o i) e)) Q s = V (denE cal mu e) (fun r s1 => V (frz r) (fun d s2 => V (denT cal mu (.ti o i) d) (fun _ s3 => Q .nx s3) s2) s1) s := wS_ti
theorem v_wS_par {ts es : C} : V (denS cal mu (.par ts es)) Q s = V (denA cal mu es) (fun rs s1 => V (denWs mu ts rs) (fun _ s2 => Q .nx s2) s1) s := wS_par
theorem v_wS_ex {e : C} : V (denS cal mu (.ex e)) Q s = V (denE cal mu e) (fun _ s1 => Q .nx s1) s := wS_ex
theorem v_wS_ret {e : C} : V (denS cal mu (.ret e)) Q s = V (denE cal mu e) (fun r s1 => Q (.rt r) s1) s := wS_ret
theorem v_wBr_true {a b : C} : vBr cal mu a b Q true s = V (denBl cal mu a) Q s := wBr_true
theorem v_wBr_false {a b : C} : vBr cal mu a b Q false s = V (denBl cal mu b) Q s := wBr_false
theorem v_wBr_split {a b : C} {k : Bool} (h1 : k = true → V (denBl cal mu a) Q s) (h2 : k = false → V (denBl cal mu b) Q s) : vBr cal mu a b Q k s := wBr_split h1 h2
theorem v_wBr_dec {a b : C} {p : Prop} [Decidable p] (h1 : p → V (denBl cal mu a) Q s) (h2 : ¬ p → V (denBl cal mu b) Q s) : vBr cal mu a b Q (decide p) s := wBr_dec h1 h2
theorem v_wS_ite {c a b : C} : V (denS cal mu (.ite c a b)) Q s = V (denE cal mu c) (fun r s1 => V (asBl r) (fun k s2 => vBr cal mu a b Q k s2) s1) s := wS_ite
theorem v_wBo_on {an : Bool} {es : C} : vBo cal mu an es E an s = V (denB cal mu an es) E s := wBo_on
theorem v_wBo_and {es : C} : vBo cal mu true es E false s = E (.val (.bl false)) s := wBo_and
theorem v_wBo_or {es : C} : vBo cal mu false es E true s = E (.val (.bl true)) s := wBo_or
theorem v_wBo_andD {es : C} {p : Prop} [Decidable p] (h1 : p → V (denB cal mu true es) E s) (h2 : ¬ p → E (.val (.bl false)) s) : vBo cal mu true es E (decide p) s := wBo_andD h1 h2
theorem v_wBo_orD {es : C} {p : Prop} [Decidable p] (h1 : p → E (.val (.bl true)) s) (h2 : ¬ p → V (denB cal mu false es) E s) : vBo cal mu false es E (decide p) s := wBo_orD h1 h2
theorem v_wS_fr {t it b : C} : V (denS cal mu (.fr t it b)) Q s = V (denI cal mu it) (fun ds s1 => V (forLoop (denG cal mu t) (denBl cal mu b) ds) Q s1) s := wS_fr
theorem v_wS_whl {n : Nat} {c b : C} : V (denS cal mu (.whl n c b)) Q s = V (whileLoop (M.bind (denE cal mu c) asBl) (denBl cal mu b) n) Q s := wS_whl
theorem v_wE_non : V (denE cal mu .non) E s = E (.val .non) s := wE_non
theorem v_wE_bl {b : Bool} : V (denE cal mu (.bl b)) E s = E (.val (.bl b)) s := wE_bl
theorem v_wE_int {b : Int} : V (denE cal mu (.int b)) E s = E (.val (.int b)) s := wE_int
theorem v_wE_str {b : Str} : V (denE cal mu (.str b)) E s = E (.val (.str b)) s := wE_str
theorem v_wE_glo {x : Str} {d : D} : V (denE cal mu (.glo x d)) E s = E (.val d) s := wE_glo
theorem v_wVar_val {i : Nat} {d : D} {K : R → Prop} : vVar i (some (.val d)) K = K (.val d) := wVar_val
theorem v_wVar_own {i : Nat} {d : O} {K : R → Prop} : vVar i (some (.own d)) K = K (.slot i) := wVar_own
theorem v_wE_var {i : Nat} : V (denE cal mu (.var i)) E s = vVar i s.σ[i]? (fun r => E r s) := wE_var
theorem v_wE_tup {es : C} : V (denE cal mu (.tup es)) E s = V (denD cal mu es) (fun ds s1 => ds.length ≤ 1000 ∧ E (.val (.tup ds)) s1) s := wE_tup
theorem v_wE_lst {es : C} : V (denE cal mu (.lst es)) E s = V (denD cal mu es) (fun ds s1 => ds.length ≤ 1000 ∧ E (.new (.lst ds)) s1) s := wE_lst
theorem v_wE_dnewT : V (denE cal mu (.dnew true)) E s = E (.new (.dt [])) s := wE_dnewT
theorem v_wE_dnewF : V (denE cal mu (.dnew false)) E s = E (.new (.dk [])) s := wE_dnewF
theorem v_W_liftR {o : Option R} : V (liftR o) E s = vOpt o (fun r => E r s) := W_liftR
theorem v_W_liftO {α : Type} {o : Option α} {K : α → Sta → Prop} : V (liftO o) K s = vOpt o (fun r => K r s) := W_liftO
theorem v_wE_disp {t : Bool} {ks vs : C} : V (denE cal mu (.disp t ks vs)) E s = V (denD cal mu ks) (fun ds s1 => vOpt (dispR ds) (fun r => E r s1)) s := wE_disp
theorem v_W_bin {op : Bop} {x y : R} : V (bin op x y) E s = vOpt (deref s x) fun a => vOpt (deref s y) fun b => vOpt (binCt op a b) fun r => E r s := W_bin
theorem v_W_cmp {op : Cop} {x y : R} : V (cmp op x y) E s = vOpt (deref s x) fun a => vOpt (deref s y) fun b => vOpt (cmpCt op a b) fun r => E (.val (.bl r)) s := W_cmp
theorem v_W_idx {x y : R} : V (idx x y) E s = vOpt (deref s x) fun a => vOpt (deref s y) fun b => vOpt (idxCt a b) fun r => E (.val r) s := W_idx
theorem v_W_slc {x : R} {lo hi : Option Int} : V (slc x lo hi) E s = vOpt (deref s x) fun a => vOpt (slcCt a lo hi) fun r => E r s := W_slc
theorem v_W_blt {f : Blt} {rs : List R} : V (blt f rs) E s = vOpt (derefs s rs) fun cs => vOpt (bltCt f cs) fun r => E r s := W_blt
theorem v_W_asInt {r : R} {K : Int → Sta → Prop} : V (asInt r) K s = vOpt (deref s r) fun c => vOpt (intCt c) fun i => K i s := W_asInt
theorem v_W_asBl {r : R} {K : Bool → Sta → Prop} : V (asBl r) K s = vOpt (blR s r) fun b => K b s := W_asBl
theorem v_wE_bin {op : Bop} {a b : C} : V (denE cal mu (.bin op a b)) E s = V (denE cal mu a) (fun x s1 => V (denE cal mu b) (fun y s2 => V (bin op x y) E s2) s1) s := wE_bin
theorem v_wE_neg {a : C} : V (denE cal mu (.neg a)) E s = V (denE cal mu a) (fun x s1 => V (asInt x) (fun i s2 => E (.val (.int (-i))) s2) s1) s := wE_neg
theorem v_wE_cmp {op : Cop} {a b : C} : V (denE cal mu (.cmp op a b)) E s = V (denE cal mu a) (fun x s1 => V (denE cal mu b) (fun y s2 => V (cmp op x y) E s2) s1) s := wE_cmp
theorem v_wE_cmp2 {op op' : Cop} {a b c : C} : V (denE cal mu (.cmp2 op op' a b c)) E s = V (denE cal mu a) (fun x s1 => V (denE cal mu b) (fun y s2 => V (cmp op x y) (fun z s3 => V (asBl z) (fun k s4 => vIf k (V (denE cal mu c) (fun w s5 => V (cmp op' y w) E s5) s4) (E (.val (.bl false)) s4)) s3) s2) s1) s := wE_cmp2
theorem v_wE_boo {an : Bool} {es : C} : V (denE cal mu (.boo an es)) E s = V (denB cal mu an es) E s := wE_boo
theorem v_wB_last {an : Bool} {e : C} : V (denB cal mu an (.cons e .nil)) E s = V (denE cal mu e) E s := wB_last
theorem v_wB_more {an : Bool} {e f es : C} : V (denB cal mu an (.cons e (.cons f es))) E s = V (denE cal mu e) (fun x s1 => V (asBl x) (fun b s2 => vBo cal mu an (.cons f es) E b s2) s1) s := wB_more
theorem v_wE_not {a : C} : V (denE cal mu (.not a)) E s = V (denE cal mu a) (fun x s1 => V (asBl x) (fun b s2 => E (.val (.bl (!b))) s2) s1) s := wE_not
theorem v_wE_idx {a b : C} : V (denE cal mu (.idx a b)) E s = V (denE cal mu a) (fun x s1 => V (denE cal mu b) (fun y s2 => V (idx x y) E s2) s1) s := wE_idx
theorem v_wE_slc {a lo hi : C} : V (denE cal mu (.slc a lo hi)) E s = V (denE cal mu a) (fun x s1 => V (denO cal mu lo) (fun l s2 => V (denO cal mu hi) (fun h s3 => V (slc x l h) E s3) s2) s1) s := wE_slc
theorem v_wO_no {K : Option Int → Sta → Prop} : V (denO cal mu .no) K s = K none s := wO_no
theorem v_wQ_no {K : Bool → Sta → Prop} : V (denQ cal mu .no) K s = K true s := wQ_no
theorem v_wE_fz {e : C} : V (denE cal mu (.fz e)) E s = V (denE cal mu e) (fun r s1 => V (frz r) (fun d s2 => E (.val d) s2) s1) s := wE_fz
theorem v_wE_stt {e : C} : V (denE cal mu (.stt e)) E s = V (denE cal mu e) (fun r s1 => V (alloc r) E s1) s := wE_stt
theorem v_wE_call {f : Str} {es : C} : V (denE cal mu (.call f es)) E s = V (denC cal mu es) (fun p s1 => V (doCall cal f p.1 p.2) E s1) s := wE_call
theorem v_wE_blt {f : Blt} {es : C} : V (denE cal mu (.blt f es)) E s = V (denA cal mu es) (fun rs s1 => V (blt f rs) E s1) s := wE_blt
theorem v_wE_mth {m : Mth} {o es : C} : V (denE cal mu (.mth m o es)) E s = V (denE cal mu o) (fun r s1 => V (kindM m r) (fun T s2 => V (denD cal mu es) (fun ds s3 => V (mth m T r ds) E s3) s2) s1) s := wE_mth
theorem v_W_kindM {m : Mth} {r : R} {K : String → Sta → Prop} : V (kindM m r) K s = vOpt ((deref s r).bind (mthT m)) fun T => K T s := W_kindM
theorem v_wD_nil {K : List D → Sta → Prop} : V (denD cal mu .nil) K s = K [] s := wD_nil
theorem v_wD_cons {e es : C} {K : List D → Sta → Prop} : V (denD cal mu (.cons e es)) K s = V (denE cal mu e) (fun r s1 => V (frz r) (fun d s2 => V (denD cal mu es) (fun ds s3 => K (d :: ds) s3) s2) s1) s := wD_cons
theorem v_wA_nil {K : List R → Sta → Prop} : V (denA cal mu .nil) K s = K [] s := wA_nil
theorem v_wA_cons {e es : C} {K : List R → Sta → Prop} : V (denA cal mu (.cons e es)) K s = V (denE cal mu e) (fun d s2 => V (denA cal mu es) (fun ds s3 => K (d :: ds) s3) s2) s := wA_cons
theorem v_wC_nil {K : List Ar × List Nat → Sta → Prop} : V (denC cal mu .nil) K s = K ([], []) s := wC_nil
theorem v_wC_mv {i : Nat} {es : C} {K : List Ar × List Nat → Sta → Prop} : V (denC cal mu (.cons (.mv i) es)) K s = V (takeOwn i) (fun o s1 => V (denC cal mu es) (fun p s2 => K (.own o :: p.1, i :: p.2) s2) s1) s := wC_mv
theorem v_wC_mw {e es : C} {K : List Ar × List Nat → Sta → Prop} : V (denC cal mu (.cons (.mw e) es)) K s = V (denE cal mu e) (fun r s1 => V (newO r) (fun o s2 => V (denC cal mu es) (fun p s3 => K (.own o :: p.1, s3.σ.length :: p.2) s3) s2) s1) s := wC_mw
theorem v_W_newO {o : O} {K : O → Sta → Prop} : V (newO (.new o)) K s = K o s := W_newO
theorem v_wI_rng {es : C} {K : List Itm → Sta → Prop} : V (denI cal mu (.irng es)) K s = V (denD cal mu es) (fun ds s1 => vOpt (rngD ds) fun its => K its s1) s := wI_rng
theorem v_wI_seq {e : C} {K : List Itm → Sta → Prop} : V (denI cal mu (.iseq e)) K s = V (denE cal mu e) (fun r s1 => V (frz r) (fun d s2 => vOpt (itemsD d) fun ds => K (ds.map Itm.v) s2) s1) s := wI_seq
theorem v_wI_enum {e : C} {K : List Itm → Sta → Prop} : V (denI cal mu (.ienum e)) K s = V (denE cal mu e) (fun r s1 => V (frz r) (fun d s2 => vOpt (itemsD d) fun ds => K (enumFrom 0 ds) s2) s1) s := wI_enum
theorem v_wI_zip {a b : C} {K : List Itm → Sta → Prop} : V (denI cal mu (.izip a b)) K s = V (denE cal mu a) (fun r s1 => V (frz r) (fun d s2 => V (denE cal mu b) (fun r' s3 => V (frz r') (fun d' s4 => vOpt (bothD d d') fun q => K (zipD q.1 q.2) s4) s3) s2) s1) s := wI_zip
theorem v_wI_str {e : C} {K : List Itm → Sta → Prop} : V (denI cal mu (.istr e)) K s = V (denE cal mu e) (fun r s1 => V (frz r) (fun d s2 => vOpt (strD d) fun ds => K ds s2) s1) s := wI_str
theorem v_wG_tn {i : Nat} {d : D} : V (denG cal mu (.tn i) (.v d)) U s = V (setSlot mu i (.val d)) U s := wG_tn
theorem v_wG_ttv {ts : C} {d : D} : V (denG cal mu (.tt ts) (.v d)) U s = vOpt (itemsD d) fun ds => V (denTs cal mu ts ds) U s := wG_ttv
theorem v_wG_ttp {ts : C} {a b : D} : V (denG cal mu (.tt ts) (.p a b)) U s = V (denTs cal mu ts [a, b]) U s := wG_ttp
theorem v_wT_tn {i : Nat} {d : D} : V (denT cal mu (.tn i) d) U s = V (setSlot mu i (.val d)) U s := wT_tn
theorem v_wT_tt {ts : C} {d : D} : V (denT cal mu (.tt ts) d) U s = vOpt (itemsD d) fun ds => V (denTs cal mu ts ds) U s := wT_tt
theorem v_wT_ti {o i : C} {d : D} : V (denT cal mu (.ti o i) d) U s = V (denE cal mu o) (fun p s1 => V (denE cal mu i) (fun r s2 => V (frz r) (fun k s3 => V (setItem p k d) U s3) s2) s1) s := wT_ti
theorem v_wTs_nil : V (denTs cal mu .nil []) U s = U () s := wTs_nil
theorem v_wTs_cons {t ts : C} {d : D} {ds : List D} : V (denTs cal mu (.cons t ts) (d :: ds)) U s = V (denT cal mu t d) (fun _ s1 => V (denTs cal mu ts ds) U s1) s := wTs_cons
theorem v_W_setSlot {i : Nat} {x : Sl} : V (setSlot mu i x) U s = ((i < s.σ.length ∧ i ∉ mu) ∧ U () ⟨s.σ.set i x, s.st⟩) := W_setSlot
theorem v_W_setW_new {i : Nat} {o : O} : V (setW mu i (.new o)) U s = ((i < s.σ.length ∧ i ∉ mu) ∧ U () ⟨s.σ.set i (.own o), s.st⟩) := W_setW_new
theorem v_W_setW_val {i : Nat} {d : D} : V (setW mu i (.val d)) U s = ((i < s.σ.length ∧ i ∉ mu) ∧ U () ⟨s.σ.set i (.val d), s.st⟩) := W_setW_val
theorem v_wWs_nil : V (denWs mu .nil []) U s = U () s := wWs_nil
theorem v_wWs_cons {i : Nat} {ts : C} {r : R} {rs : List R} : V (denWs mu (.cons (.tw i) ts) (r :: rs)) U s = V (setW mu i r) (fun _ s1 => V (denWs mu ts rs) U s1) s := wWs_cons
theorem v_W_frz_val {d : D} : V (frz (.val d)) KD s = KD d s := W_frz_val
theorem v_W_frz_new {xs : List D} : V (frz (.new (.lst xs))) KD s = KD (.lst xs) s := W_frz_new
theorem v_wFrz_own {i : Nat} {xs : List D} : vFrz i (some (.own (.lst xs))) s KD = KD (.lst xs) ⟨s.σ.set i (.val (.lst xs)), s.st⟩ := wFrz_own
theorem v_wFrz_val {i : Nat} {d : D} : vFrz i (some (.val d)) s KD = KD d s := wFrz_val
theorem v_W_frz_slot {i : Nat} : V (frz (.slot i)) KD s = vFrz i s.σ[i]? s KD := W_frz_slot
theorem v_W_alloc {o : O} : V (alloc (.new o)) E s = E (.val (.ref s.st.length)) ⟨s.σ, s.st ++ [o]⟩ := W_alloc
theorem v_W_takeOwn {i : Nat} {K : O → Sta → Prop} : V (takeOwn i) K s = vOpt (ownO s.σ[i]?) fun o => K o ⟨s.σ.set i .no, s.st⟩ := W_takeOwn
theorem v_W_setPl {r : R} {o : O} : V (setPl r o) U s = vOpt (putPl r o s) fun s' => U () s' := W_setPl
theorem v_W_setItem {r : R} {k v : D} : V (setItem r k v) U s = vOpt (objO (deref s r)) fun o => vOpt (setO o k v) fun o' => vOpt (putPl r o' s) fun s' => U () s' := W_setItem
theorem v_W_mthMut {m : Mth} {T : String} {r : R} {ds : List D} (hm : m.muts = true) : V (mth m T r ds) E s = vOpt (deref s r) fun c => mthT m c = some T ∧ vOpt (objO (some c)) fun o => vOpt (mutO m o ds) fun p => vOpt (putPl r p.1 s) fun s' => E (.val p.2) s' := W_mthMut hm
theorem v_W_mthAsk {m : Mth} {T : String} {r : R} {ds : List D} (hm : m.muts = false) : V (mth m T r ds) E s = vOpt (deref s r) fun c => mthT m c = some T ∧ vOpt (askO m c ds) fun a => E a s := W_mthAsk hm
theorem v_wCO_ok {r : Rt} {os st : List O} {K : Rt → List O → List O → Prop} : vCO (.ok r os st) K = K r os st := wCO_ok
theorem v_W_doCall {f : Str} {as : List Ar} {l : List Nat} : V (doCall cal f as l) E s = vCO (cal f as s.st) fun r os st' => vOpt (backO l os ⟨s.σ, st'⟩) fun s' => E (rOf r) s' := W_doCall
theorem v_wCO_mono {c : CO} {K K' : Rt → List O → List O → Prop} (h : vCO c K) (k : ∀ r os st, K r os st → K' r os st) : vCO c K' := wCO_mono h k
theorem v_wCO_run {fd : Fd} {as : List Ar} {K : Rt → List O → List O → Prop} (hl : as.length = fd.n ∧ ownPlaces as = fd.m ∧ fd.n ≤ fd.k)
    (h : V (denBl cal fd.m fd.body) (fun f s => vOpt (match f with | .nx => some (Rt.val .non) | .rt x => endR fd.m s x) fun r => vOpt (outsOf s.σ fd.m) fun os => K r os s.st) ⟨as.map slOf ++ List.replicate (fd.k - fd.n) .no, st⟩) :
    vCO (runFd cal fd as st) K := wCO_run hl h
theorem v_W_conseq {α : Type} {m : M α} {Q Q' : α → Sta → Prop} (h : V m Q s) (k : ∀ a s', Q a s' → Q' a s') : V m Q' s := W_conseq h k
/-- a comprehension -/
def vLc (vs : List Nat) (tg : Itm → M Unit) (tst : M Bool) (el : M D) (ds : List Itm) (E : R → Sta → Prop) (s : Sta) (k : Seal E := {}) : Prop := V (lcLoop vs tg tst el ds []) (fun acc s2 => E (.new (.lst acc)) ⟨backS s.σ s2.σ vs, s2.st⟩) s
theorem v_wE_lc {vs : List Nat} {t it ifs e : C} : V (denE cal mu (.lc vs t it ifs e)) E s = V (denI cal mu it) (fun ds s1 => vLc vs (denG cal mu t) (denQ cal mu ifs) (M.bind (denE cal mu e) frz) ds E s1) s := wE_lc
end
end NH

set_option Elab.async false
set_option linter.all false
set_option maxRecDepth 100000
set_option maxHeartbeats 1000000
set_option autoImplicit false
namespace NH
open PySem L2
section
variable {cal : Cal} {mu : List Nat} {s : Sta} {σ : List Sl} {st : List O}
theorem v_wC_non  {es : C} {K : List Ar × List Nat → Sta → Prop} : V (denC cal mu (.cons .non es)) K s = V (denE cal mu .non) (fun r s1 => V (frz r) (fun d s2 => V (denC cal mu es) (fun p s3 => K (.val d :: p.1, p.2) s3) s2) s1) s := wC_cons (fun _ h => by cases h) (fun _ h => by cases h)
theorem v_wO_non  {K : Option Int → Sta → Prop} : V (denO cal mu .non) K s = V (denE cal mu .non) (fun x s1 => V (asInt x) (fun i s2 => K (some i) s2) s1) s := wO_some fun h => by cases h
theorem v_wQ_non  {K : Bool → Sta → Prop} : V (denQ cal mu .non) K s = V (denE cal mu .non) (fun x s1 => V (asBl x) K s1) s := wQ_some fun h => by cases h
theorem v_wC_bl {b : Bool} {es : C} {K : List Ar × List Nat → Sta → Prop} : V (denC cal mu (.cons (.bl b) es)) K s = V (denE cal mu (.bl b)) (fun r s1 => V (frz r) (fun d s2 => V (denC cal mu es) (fun p s3 => K (.val d :: p.1, p.2) s3) s2) s1) s := wC_cons (fun _ h => by cases h) (fun _ h => by cases h)
theorem v_wO_bl {b : Bool} {K : Option Int → Sta → Prop} : V (denO cal mu (.bl b)) K s = V (denE cal mu (.bl b)) (fun x s1 => V (asInt x) (fun i s2 => K (some i) s2) s1) s := wO_some fun h => by cases h
theorem v_wQ_bl {b : Bool} {K : Bool → Sta → Prop} : V (denQ cal mu (.bl b)) K s = V (denE cal mu (.bl b)) (fun x s1 => V (asBl x) K s1) s := wQ_some fun h => by cases h
theorem v_wC_int {b : Int} {es : C} {K : List Ar × List Nat → Sta → Prop} : V (denC cal mu (.cons (.int b) es)) K s = V (denE cal mu (.int b)) (fun r s1 => V (frz r) (fun d s2 => V (denC cal mu es) (fun p s3 => K (.val d :: p.1, p.2) s3) s2) s1) s := wC_cons (fun _ h => by cases h) (fun _ h => by cases h)
theorem v_wO_int {b : Int} {K : Option Int → Sta → Prop} : V (denO cal mu (.int b)) K s = V (denE cal mu (.int b)) (fun x s1 => V (asInt x) (fun i s2 => K (some i) s2) s1) s := wO_some fun h => by cases h
theorem v_wQ_int {b : Int} {K : Bool → Sta → Prop} : V (denQ cal mu (.int b)) K s = V (denE cal mu (.int b)) (fun x s1 => V (asBl x) K s1) s := wQ_some fun h => by cases h
theorem v_wC_str {b : Str} {es : C} {K : List Ar × List Nat → Sta → Prop} : V (denC cal mu (.cons (.str b) es)) K s = V (denE cal mu (.str b)) (fun r s1 => V (frz r) (fun d s2 => V (denC cal mu es) (fun p s3 => K (.val d :: p.1, p.2) s3) s2) s1) s := wC_cons (fun _ h => by cases h) (fun _ h => by cases h)
theorem v_wO_str {b : Str} {K : Option Int → Sta → Prop} : V (denO cal mu (.str b)) K s = V (denE cal mu (.str b)) (fun x s1 => V (asInt x) (fun i s2 => K (some i) s2) s1) s := wO_some fun h => by cases h
theorem v_wQ_str {b : Str} {K : Bool → Sta → Prop} : V (denQ cal mu (.str b)) K s = V (denE cal mu (.str b)) (fun x s1 => V (asBl x) K s1) s := wQ_some fun h => by cases h
theorem v_wC_var {i : Nat} {es : C} {K : List Ar × List Nat → Sta → Prop} : V (denC cal mu (.cons (.var i) es)) K s = V (denE cal mu (.var i)) (fun r s1 => V (frz r) (fun d s2 => V (denC cal mu es) (fun p s3 => K (.val d :: p.1, p.2) s3) s2) s1) s := wC_cons (fun _ h => by cases h) (fun _ h => by cases h)
theorem v_wO_var {i : Nat} {K : Option Int → Sta → Prop} : V (denO cal mu (.var i)) K s = V (denE cal mu (.var i)) (fun x s1 => V (asInt x) (fun i s2 => K (some i) s2) s1) s := wO_some fun h => by cases h
theorem v_wQ_var {i : Nat} {K : Bool → Sta → Prop} : V (denQ cal mu (.var i)) K s = V (denE cal mu (.var i)) (fun x s1 => V (asBl x) K s1) s := wQ_some fun h => by cases h
theorem v_wC_glo {x : Str} {d : D} {es : C} {K : List Ar × List Nat → Sta → Prop} : V (denC cal mu (.cons (.glo x d) es)) K s = V (denE cal mu (.glo x d)) (fun r s1 => V (frz r) (fun d s2 => V (denC cal mu es) (fun p s3 => K (.val d :: p.1, p.2) s3) s2) s1) s := wC_cons (fun _ h => by cases h) (fun _ h => by cases h)
theorem v_wO_glo {x : Str} {d : D} {K : Option Int → Sta → Prop} : V (denO cal mu (.glo x d)) K s = V (denE cal mu (.glo x d)) (fun x s1 => V (asInt x) (fun i s2 => K (some i) s2) s1) s := wO_some fun h => by cases h
theorem v_wQ_glo {x : Str} {d : D} {K : Bool → Sta → Prop} : V (denQ cal mu (.glo x d)) K s = V (denE cal mu (.glo x d)) (fun x s1 => V (asBl x) K s1) s := wQ_some fun h => by cases h
theorem v_wC_tup {a : C} {es : C} {K : List Ar × List Nat → Sta → Prop} : V (denC cal mu (.cons (.tup a) es)) K s = V (denE cal mu (.tup a)) (fun r s1 => V (frz r) (fun d s2 => V (denC cal mu es) (fun p s3 => K (.val d :: p.1, p.2) s3) s2) s1) s := wC_cons (fun _ h => by cases h) (fun _ h => by cases h)
theorem v_wO_tup {a : C} {K : Option Int → Sta → Prop} : V (denO cal mu (.tup a)) K s = V (denE cal mu (.tup a)) (fun x s1 => V (asInt x) (fun i s2 => K (some i) s2) s1) s := wO_some fun h => by cases h
theorem v_wQ_tup {a : C} {K : Bool → Sta → Prop} : V (denQ cal mu (.tup a)) K s = V (denE cal mu (.tup a)) (fun x s1 => V (asBl x) K s1) s := wQ_some fun h => by cases h
theorem v_wC_lst {a : C} {es : C} {K : List Ar × List Nat → Sta → Prop} : V (denC cal mu (.cons (.lst a) es)) K s = V (denE cal mu (.lst a)) (fun r s1 => V (frz r) (fun d s2 => V (denC cal mu es) (fun p s3 => K (.val d :: p.1, p.2) s3) s2) s1) s := wC_cons (fun _ h => by cases h) (fun _ h => by cases h)
theorem v_wO_lst {a : C} {K : Option Int → Sta → Prop} : V (denO cal mu (.lst a)) K s = V (denE cal mu (.lst a)) (fun x s1 => V (asInt x) (fun i s2 => K (some i) s2) s1) s := wO_some fun h => by cases h
theorem v_wQ_lst {a : C} {K : Bool → Sta → Prop} : V (denQ cal mu (.lst a)) K s = V (denE cal mu (.lst a)) (fun x s1 => V (asBl x) K s1) s := wQ_some fun h => by cases h
theorem v_wC_dnew {b : Bool} {es : C} {K : List Ar × List Nat → Sta → Prop} : V (denC cal mu (.cons (.dnew b) es)) K s = V (denE cal mu (.dnew b)) (fun r s1 => V (frz r) (fun d s2 => V (denC cal mu es) (fun p s3 => K (.val d :: p.1, p.2) s3) s2) s1) s := wC_cons (fun _ h => by cases h) (fun _ h => by cases h)
theorem v_wO_dnew {b : Bool} {K : Option Int → Sta → Prop} : V (denO cal mu (.dnew b)) K s = V (denE cal mu (.dnew b)) (fun x s1 => V (asInt x) (fun i s2 => K (some i) s2) s1) s := wO_some fun h => by cases h
theorem v_wQ_dnew {b : Bool} {K : Bool → Sta → Prop} : V (denQ cal mu (.dnew b)) K s = V (denE cal mu (.dnew b)) (fun x s1 => V (asBl x) K s1) s := wQ_some fun h => by cases h
theorem v_wC_disp {b : Bool} {a c : C} {es : C} {K : List Ar × List Nat → Sta → Prop} : V (denC cal mu (.cons (.disp b a c) es)) K s = V (denE cal mu (.disp b a c)) (fun r s1 => V (frz r) (fun d s2 => V (denC cal mu es) (fun p s3 => K (.val d :: p.1, p.2) s3) s2) s1) s := wC_cons (fun _ h => by cases h) (fun _ h => by cases h)
theorem v_wO_disp {b : Bool} {a c : C} {K : Option Int → Sta → Prop} : V (denO cal mu (.disp b a c)) K s = V (denE cal mu (.disp b a c)) (fun x s1 => V (asInt x) (fun i s2 => K (some i) s2) s1) s := wO_some fun h => by cases h
theorem v_wQ_disp {b : Bool} {a c : C} {K : Bool → Sta → Prop} : V (denQ cal mu (.disp b a c)) K s = V (denE cal mu (.disp b a c)) (fun x s1 => V (asBl x) K s1) s := wQ_some fun h => by cases h
theorem v_wC_bin {op : Bop} {a c : C} {es : C} {K : List Ar × List Nat → Sta → Prop} : V (denC cal mu (.cons (.bin op a c) es)) K s = V (denE cal mu (.bin op a c)) (fun r s1 => V (frz r) (fun d s2 => V (denC cal mu es) (fun p s3 => K (.val d :: p.1, p.2) s3) s2) s1) s := wC_cons (fun _ h => by cases h) (fun _ h => by cases h)
theorem v_wO_bin {op : Bop} {a c : C} {K : Option Int → Sta → Prop} : V (denO cal mu (.bin op a c)) K s = V (denE cal mu (.bin op a c)) (fun x s1 => V (asInt x) (fun i s2 => K (some i) s2) s1) s := wO_some fun h => by cases h
theorem v_wQ_bin {op : Bop} {a c : C} {K : Bool → Sta → Prop} : V (denQ cal mu (.bin op a c)) K s = V (denE cal mu (.bin op a c)) (fun x s1 => V (asBl x) K s1) s := wQ_some fun h => by cases h
theorem v_wC_neg {a : C} {es : C} {K : List Ar × List Nat → Sta → Prop} : V (denC cal mu (.cons (.neg a) es)) K s = V (denE cal mu (.neg a)) (fun r s1 => V (frz r) (fun d s2 => V (denC cal mu es) (fun p s3 => K (.val d :: p.1, p.2) s3) s2) s1) s := wC_cons (fun _ h => by cases h) (fun _ h => by cases h)
theorem v_wO_neg {a : C} {K : Option Int → Sta → Prop} : V (denO cal mu (.neg a)) K s = V (denE cal mu (.neg a)) (fun x s1 => V (asInt x) (fun i s2 => K (some i) s2) s1) s := wO_some fun h => by cases h
theorem v_wQ_neg {a : C} {K : Bool → Sta → Prop} : V (denQ cal mu (.neg a)) K s = V (denE cal mu (.neg a)) (fun x s1 => V (asBl x) K s1) s := wQ_some fun h => by cases h
theorem v_wC_cmp {op : Cop} {a c : C} {es : C} {K : List Ar × List Nat → Sta → Prop} : V (denC cal mu (.cons (.cmp op a c) es)) K s = V (denE cal mu (.cmp op a c)) (fun r s1 => V (frz r) (fun d s2 => V (denC cal mu es) (fun p s3 => K (.val d :: p.1, p.2) s3) s2) s1) s := wC_cons (fun _ h => by cases h) (fun _ h => by cases h)
theorem v_wO_cmp {op : Cop} {a c : C} {K : Option Int → Sta → Prop} : V (denO cal mu (.cmp op a c)) K s = V (denE cal mu (.cmp op a c)) (fun x s1 => V (asInt x) (fun i s2 => K (some i) s2) s1) s := wO_some fun h => by cases h
theorem v_wQ_cmp {op : Cop} {a c : C} {K : Bool → Sta → Prop} : V (denQ cal mu (.cmp op a c)) K s = V (denE cal mu (.cmp op a c)) (fun x s1 => V (asBl x) K s1) s := wQ_some fun h => by cases h
theorem v_wC_cmp2 {op op2 : Cop} {a c d : C} {es : C} {K : List Ar × List Nat → Sta → Prop} : V (denC cal mu (.cons (.cmp2 op op2 a c d) es)) K s = V (denE cal mu (.cmp2 op op2 a c d)) (fun r s1 => V (frz r) (fun d s2 => V (denC cal mu es) (fun p s3 => K (.val d :: p.1, p.2) s3) s2) s1) s := wC_cons (fun _ h => by cases h) (fun _ h => by cases h)
theorem v_wO_cmp2 {op op2 : Cop} {a c d : C} {K : Option Int → Sta → Prop} : V (denO cal mu (.cmp2 op op2 a c d)) K s = V (denE cal mu (.cmp2 op op2 a c d)) (fun x s1 => V (asInt x) (fun i s2 => K (some i) s2) s1) s := wO_some fun h => by cases h
theorem v_wQ_cmp2 {op op2 : Cop} {a c d : C} {K : Bool → Sta → Prop} : V (denQ cal mu (.cmp2 op op2 a c d)) K s = V (denE cal mu (.cmp2 op op2 a c d)) (fun x s1 => V (asBl x) K s1) s := wQ_some fun h => by cases h
theorem v_wC_boo {b : Bool} {a : C} {es : C} {K : List Ar × List Nat → Sta → Prop} : V (denC cal mu (.cons (.boo b a) es)) K s = V (denE cal mu (.boo b a)) (fun r s1 => V (frz r) (fun d s2 => V (denC cal mu es) (fun p s3 => K (.val d :: p.1, p.2) s3) s2) s1) s := wC_cons (fun _ h => by cases h) (fun _ h => by cases h)
theorem v_wO_boo {b : Bool} {a : C} {K : Option Int → Sta → Prop} : V (denO cal mu (.boo b a)) K s = V (denE cal mu (.boo b a)) (fun x s1 => V (asInt x) (fun i s2 => K (some i) s2) s1) s := wO_some fun h => by cases h
theorem v_wQ_boo {b : Bool} {a : C} {K : Bool → Sta → Prop} : V (denQ cal mu (.boo b a)) K s = V (denE cal mu (.boo b a)) (fun x s1 => V (asBl x) K s1) s := wQ_some fun h => by cases h
theorem v_wC_not {a : C} {es : C} {K : List Ar × List Nat → Sta → Prop} : V (denC cal mu (.cons (.not a) es)) K s = V (denE cal mu (.not a)) (fun r s1 => V (frz r) (fun d s2 => V (denC cal mu es) (fun p s3 => K (.val d :: p.1, p.2) s3) s2) s1) s := wC_cons (fun _ h => by cases h) (fun _ h => by cases h)
theorem v_wO_not {a : C} {K : Option Int → Sta → Prop} : V (denO cal mu (.not a)) K s = V (denE cal mu (.not a)) (fun x s1 => V (asInt x) (fun i s2 => K (some i) s2) s1) s := wO_some fun h => by cases h
theorem v_wQ_not {a : C} {K : Bool → Sta → Prop} : V (denQ cal mu (.not a)) K s = V (denE cal mu (.not a)) (fun x s1 => V (asBl x) K s1) s := wQ_some fun h => by cases h
theorem v_wC_idx {a c : C} {es : C} {K : List Ar × List Nat → Sta → Prop} : V (denC cal mu (.cons (.idx a c) es)) K s = V (denE cal mu (.idx a c)) (fun r s1 => V (frz r) (fun d s2 => V (denC cal mu es) (fun p s3 => K (.val d :: p.1, p.2) s3) s2) s1) s := wC_cons (fun _ h => by cases h) (fun _ h => by cases h)
theorem v_wO_idx {a c : C} {K : Option Int → Sta → Prop} : V (denO cal mu (.idx a c)) K s = V (denE cal mu (.idx a c)) (fun x s1 => V (asInt x) (fun i s2 => K (some i) s2) s1) s := wO_some fun h => by cases h
theorem v_wQ_idx {a c : C} {K : Bool → Sta → Prop} : V (denQ cal mu (.idx a c)) K s = V (denE cal mu (.idx a c)) (fun x s1 => V (asBl x) K s1) s := wQ_some fun h => by cases h
theorem v_wC_slc {a c d : C} {es : C} {K : List Ar × List Nat → Sta → Prop} : V (denC cal mu (.cons (.slc a c d) es)) K s = V (denE cal mu (.slc a c d)) (fun r s1 => V (frz r) (fun d s2 => V (denC cal mu es) (fun p s3 => K (.val d :: p.1, p.2) s3) s2) s1) s := wC_cons (fun _ h => by cases h) (fun _ h => by cases h)
theorem v_wO_slc {a c d : C} {K : Option Int → Sta → Prop} : V (denO cal mu (.slc a c d)) K s = V (denE cal mu (.slc a c d)) (fun x s1 => V (asInt x) (fun i s2 => K (some i) s2) s1) s := wO_some fun h => by cases h
theorem v_wQ_slc {a c d : C} {K : Bool → Sta → Prop} : V (denQ cal mu (.slc a c d)) K s = V (denE cal mu (.slc a c d)) (fun x s1 => V (asBl x) K s1) s := wQ_some fun h => by cases h
theorem v_wC_lc {vs : List Nat} {a c d f : C} {es : C} {K : List Ar × List Nat → Sta → Prop} : V (denC cal mu (.cons (.lc vs a c d f) es)) K s = V (denE cal mu (.lc vs a c d f)) (fun r s1 => V (frz r) (fun d s2 => V (denC cal mu es) (fun p s3 => K (.val d :: p.1, p.2) s3) s2) s1) s := wC_cons (fun _ h => by cases h) (fun _ h => by cases h)
theorem v_wO_lc {vs : List Nat} {a c d f : C} {K : Option Int → Sta → Prop} : V (denO cal mu (.lc vs a c d f)) K s = V (denE cal mu (.lc vs a c d f)) (fun x s1 => V (asInt x) (fun i s2 => K (some i) s2) s1) s := wO_some fun h => by cases h
theorem v_wQ_lc {vs : List Nat} {a c d f : C} {K : Bool → Sta → Prop} : V (denQ cal mu (.lc vs a c d f)) K s = V (denE cal mu (.lc vs a c d f)) (fun x s1 => V (asBl x) K s1) s := wQ_some fun h => by cases h
theorem v_wC_fz {a : C} {es : C} {K : List Ar × List Nat → Sta → Prop} : V (denC cal mu (.cons (.fz a) es)) K s = V (denE cal mu (.fz a)) (fun r s1 => V (frz r) (fun d s2 => V (denC cal mu es) (fun p s3 => K (.val d :: p.1, p.2) s3) s2) s1) s := wC_cons (fun _ h => by cases h) (fun _ h => by cases h)
theorem v_wO_fz {a : C} {K : Option Int → Sta → Prop} : V (denO cal mu (.fz a)) K s = V (denE cal mu (.fz a)) (fun x s1 => V (asInt x) (fun i s2 => K (some i) s2) s1) s := wO_some fun h => by cases h
theorem v_wQ_fz {a : C} {K : Bool → Sta → Prop} : V (denQ cal mu (.fz a)) K s = V (denE cal mu (.fz a)) (fun x s1 => V (asBl x) K s1) s := wQ_some fun h => by cases h
theorem v_wC_stt {a : C} {es : C} {K : List Ar × List Nat → Sta → Prop} : V (denC cal mu (.cons (.stt a) es)) K s = V (denE cal mu (.stt a)) (fun r s1 => V (frz r) (fun d s2 => V (denC cal mu es) (fun p s3 => K (.val d :: p.1, p.2) s3) s2) s1) s := wC_cons (fun _ h => by cases h) (fun _ h => by cases h)
theorem v_wO_stt {a : C} {K : Option Int → Sta → Prop} : V (denO cal mu (.stt a)) K s = V (denE cal mu (.stt a)) (fun x s1 => V (asInt x) (fun i s2 => K (some i) s2) s1) s := wO_some fun h => by cases h
theorem v_wQ_stt {a : C} {K : Bool → Sta → Prop} : V (denQ cal mu (.stt a)) K s = V (denE cal mu (.stt a)) (fun x s1 => V (asBl x) K s1) s := wQ_some fun h => by cases h
theorem v_wC_call {x : Str} {a : C} {es : C} {K : List Ar × List Nat → Sta → Prop} : V (denC cal mu (.cons (.call x a) es)) K s = V (denE cal mu (.call x a)) (fun r s1 => V (frz r) (fun d s2 => V (denC cal mu es) (fun p s3 => K (.val d :: p.1, p.2) s3) s2) s1) s := wC_cons (fun _ h => by cases h) (fun _ h => by cases h)
theorem v_wO_call {x : Str} {a : C} {K : Option Int → Sta → Prop} : V (denO cal mu (.call x a)) K s = V (denE cal mu (.call x a)) (fun x s1 => V (asInt x) (fun i s2 => K (some i) s2) s1) s := wO_some fun h => by cases h
theorem v_wQ_call {x : Str} {a : C} {K : Bool → Sta → Prop} : V (denQ cal mu (.call x a)) K s = V (denE cal mu (.call x a)) (fun x s1 => V (asBl x) K s1) s := wQ_some fun h => by cases h
theorem v_wC_blt {f : Blt} {a : C} {es : C} {K : List Ar × List Nat → Sta → Prop} : V (denC cal mu (.cons (.blt f a) es)) K s = V (denE cal mu (.blt f a)) (fun r s1 => V (frz r) (fun d s2 => V (denC cal mu es) (fun p s3 => K (.val d :: p.1, p.2) s3) s2) s1) s := wC_cons (fun _ h => by cases h) (fun _ h => by cases h)
theorem v_wO_blt {f : Blt} {a : C} {K : Option Int → Sta → Prop} : V (denO cal mu (.blt f a)) K s = V (denE cal mu (.blt f a)) (fun x s1 => V (asInt x) (fun i s2 => K (some i) s2) s1) s := wO_some fun h => by cases h
theorem v_wQ_blt {f : Blt} {a : C} {K : Bool → Sta → Prop} : V (denQ cal mu (.blt f a)) K s = V (denE cal mu (.blt f a)) (fun x s1 => V (asBl x) K s1) s := wQ_some fun h => by cases h
theorem v_wC_mth {m : Mth} {a c : C} {es : C} {K : List Ar × List Nat → Sta → Prop} : V (denC cal mu (.cons (.mth m a c) es)) K s = V (denE cal mu (.mth m a c)) (fun r s1 => V (frz r) (fun d s2 => V (denC cal mu es) (fun p s3 => K (.val d :: p.1, p.2) s3) s2) s1) s := wC_cons (fun _ h => by cases h) (fun _ h => by cases h)
theorem v_wO_mth {m : Mth} {a c : C} {K : Option Int → Sta → Prop} : V (denO cal mu (.mth m a c)) K s = V (denE cal mu (.mth m a c)) (fun x s1 => V (asInt x) (fun i s2 => K (some i) s2) s1) s := wO_some fun h => by cases h
theorem v_wQ_mth {m : Mth} {a c : C} {K : Bool → Sta → Prop} : V (denQ cal mu (.mth m a c)) K s = V (denE cal mu (.mth m a c)) (fun x s1 => V (asBl x) K s1) s := wQ_some fun h => by cases h
theorem v_W_append {T : String} {r : R} {ds : List D} {E : R → Sta → Prop} : V (mth .append T r ds) E s = vOpt (deref s r) fun c => mthT .append c = some T ∧ vOpt (objO (some c)) fun o => vOpt (mutO .append o ds) fun p => vOpt (putPl r p.1 s) fun s' => E (.val p.2) s' := W_mthMut rfl
theorem v_W_extend {T : String} {r : R} {ds : List D} {E : R → Sta → Prop} : V (mth .extend T r ds) E s = vOpt (deref s r) fun c => mthT .extend c = some T ∧ vOpt (objO (some c)) fun o => vOpt (mutO .extend o ds) fun p => vOpt (putPl r p.1 s) fun s' => E (.val p.2) s' := W_mthMut rfl
theorem v_W_pop0 {T : String} {r : R} {ds : List D} {E : R → Sta → Prop} : V (mth .pop0 T r ds) E s = vOpt (deref s r) fun c => mthT .pop0 c = some T ∧ vOpt (objO (some c)) fun o => vOpt (mutO .pop0 o ds) fun p => vOpt (putPl r p.1 s) fun s' => E (.val p.2) s' := W_mthMut rfl
theorem v_W_pop1 {T : String} {r : R} {ds : List D} {E : R → Sta → Prop} : V (mth .pop1 T r ds) E s = vOpt (deref s r) fun c => mthT .pop1 c = some T ∧ vOpt (objO (some c)) fun o => vOpt (mutO .pop1 o ds) fun p => vOpt (putPl r p.1 s) fun s' => E (.val p.2) s' := W_mthMut rfl
theorem v_W_clear {T : String} {r : R} {ds : List D} {E : R → Sta → Prop} : V (mth .clear T r ds) E s = vOpt (deref s r) fun c => mthT .clear c = some T ∧ vOpt (objO (some c)) fun o => vOpt (mutO .clear o ds) fun p => vOpt (putPl r p.1 s) fun s' => E (.val p.2) s' := W_mthMut rfl
theorem v_W_index {T : String} {r : R} {ds : List D} {E : R → Sta → Prop} : V (mth .index T r ds) E s = vOpt (deref s r) fun c => mthT .index c = some T ∧ vOpt (askO .index c ds) fun a => E a s := W_mthAsk rfl
theorem v_W_get {T : String} {r : R} {ds : List D} {E : R → Sta → Prop} : V (mth .get T r ds) E s = vOpt (deref s r) fun c => mthT .get c = some T ∧ vOpt (askO .get c ds) fun a => E a s := W_mthAsk rfl
theorem v_W_count {T : String} {r : R} {ds : List D} {E : R → Sta → Prop} : V (mth .count T r ds) E s = vOpt (deref s r) fun c => mthT .count c = some T ∧ vOpt (askO .count c ds) fun a => E a s := W_mthAsk rfl
end
/-! ### values -/
section
variable {s : Sta} {st : List O}
theorem ctOf_non : ctOf st .non = some (.d .non) := rfl
theorem ctOf_bl {b : Bool} : ctOf st (.bl b) = some (.d (.bl b)) := rfl
theorem ctOf_int {b : Int} : ctOf st (.int b) = some (.d (.int b)) := rfl
theorem ctOf_str {b : Str} : ctOf st (.str b) = some (.d (.str b)) := rfl
theorem ctOf_tup {b : List D} : ctOf st (.tup b) = some (.d (.tup b)) := rfl
theorem ctOf_klst {b : List D} : ctOf st (.klst b) = some (.d (.klst b)) := rfl
theorem ctOf_lst {b : List D} : ctOf st (.lst b) = some (.o (.lst b)) := rfl
theorem ctOf_ref {n : Nat} : ctOf st (.ref n) = (st[n]?).map Ct.o := rfl
def derefSl (st : List O) : Option Sl → Option Ct
  | some (.own o) => some (.o o)
  | some (.val d) => ctOf st d
  | _ => none
theorem derefSl_own {o : O} : derefSl st (some (.own o)) = some (.o o) := rfl
theorem derefSl_val {d : D} : derefSl st (some (.val d)) = ctOf st d := rfl
theorem deref_val {d : D} : deref s (.val d) = ctOf s.st d := rfl
theorem deref_new {o : O} : deref s (.new o) = some (.o o) := rfl
theorem deref_slot {i : Nat} : deref s (.slot i) = derefSl s.st s.σ[i]? := rfl
theorem derefs_nil : derefs s [] = some [] := rfl
theorem derefs_cons {r : R} {rs : List R} : derefs s (r :: rs) = (deref s r).bind fun c => (derefs s rs).map (c :: ·) := by
  unfold derefs
  cases deref s r with
  | none => rfl
  | some c => cases h : derefs s rs <;> simp only [h, Option.bind_some, Option.map_none, Option.map_some] <;> cases rs <;> simp_all [derefs]
theorem lk0 {α : Type} {a : α} {l : List α} : (a :: l)[0]? = some a := rfl
theorem lkS {α : Type} {a : α} {l : List α} {n : Nat} : (a :: l)[n + 1]? = l[n]? := rfl
/-! ints -/
theorem bin_add {i j : Int} : binCt .add (.d (.int i)) (.d (.int j)) = some (.val (.int (i + j))) := rfl
theorem bin_sub {i j : Int} : binCt .sub (.d (.int i)) (.d (.int j)) = some (.val (.int (i - j))) := rfl
theorem bin_mul {i j : Int} (h : (-(2 ^ 64) < i ∧ i < 2 ^ 64) ∨ (-(2 ^ 64) < j ∧ j < 2 ^ 64)) : binCt .mul (.d (.int i)) (.d (.int j)) = some (.val (.int (i * j))) := by
  simp only [binCt, binInt, dc_iff.mpr h, if_true, Option.map_some]
theorem bin_mod {i j : Int} (h : 0 < j) : binCt .mod (.d (.int i)) (.d (.int j)) = some (.val (.int (i % j))) := by
  simp only [binCt, binInt, dc_iff.mpr h, if_true, Option.map_some]
theorem bin_fdiv {i j : Int} (h : 0 < j ∧ j < 1073741824) : binCt .fdiv (.d (.int i)) (.d (.int j)) = some (.val (.int (i / j))) := by
  simp only [binCt, binInt, dc_iff.mpr h, if_true, Option.map_some]
theorem bin_pow {i j : Int} (h : 0 ≤ j ∧ j ≤ 1000000 ∧ i.natAbs < 2 ^ 64) : binCt .pow (.d (.int i)) (.d (.int j)) = some (.val (.int (i ^ j.toNat))) := by
  simp only [binCt, binInt, dc_iff.mpr h, if_true, Option.map_some]
theorem bin_catT {xs ys : List D} (h : xs.length + ys.length ≤ 16777216) : binCt .add (.d (.tup xs)) (.d (.tup ys)) = some (.val (.tup (xs ++ ys))) := by
  simp only [binCt]; rw [if_pos (by rw [sizeLine_eq]; exact h)]
theorem bin_catL {xs ys : List D} (h : xs.length + ys.length ≤ 16777216) : binCt .add (.o (.lst xs)) (.o (.lst ys)) = some (.new (.lst (xs ++ ys))) := by
  simp only [binCt]; rw [if_pos (by rw [sizeLine_eq]; exact h)]
theorem bin_rep {d : D} {k : Nat} (h : k ≤ 16777216) : binCt .mul (.o (.lst [d])) (.d (.int (k : Int))) = some (.new (.lst (List.replicate k d))) := by
  have : dc (-(2 ^ 63) ≤ (k : Int) ∧ (k : Int) < 2 ^ 63 ∧ [d].length * (k : Int).toNat ≤ sizeLine) = true := by
    refine dc_iff.mpr ⟨by omega, by omega, ?_⟩
    rw [sizeLine_eq]; simp; omega
  have fl : ∀ j : Nat, (List.replicate j [d]).flatten = List.replicate j d := by
    intro j
    induction j with
    | zero => rfl
    | succ j ih => rw [List.replicate_succ, List.replicate_succ, List.flatten_cons, ih]; rfl
  simp only [binCt]
  rw [if_pos this, Int.toNat_natCast, fl]
theorem cmp_lt {i j : Int} : cmpCt .lt (.d (.int i)) (.d (.int j)) = some (decide (i < j)) := by simp only [cmpCt, ltCt, cmpI, dc_eq]
theorem cmp_le {i j : Int} : cmpCt .le (.d (.int i)) (.d (.int j)) = some (decide (i ≤ j)) := by simp only [cmpCt, cmpI, dc_eq]
theorem cmp_gt {i j : Int} : cmpCt .gt (.d (.int i)) (.d (.int j)) = some (decide (j < i)) := by simp only [cmpCt, cmpI, dc_eq]
theorem cmp_ge {i j : Int} : cmpCt .ge (.d (.int i)) (.d (.int j)) = some (decide (j ≤ i)) := by simp only [cmpCt, cmpI, dc_eq]
theorem eqOk_int {i : Int} : (D.int i).eqOk = true := by
  simp [D.eqOk, D.pure, D.py, SeqAt.shaped, PyData.canLay0, PyData.depth]
theorem eqOk_bl {i : Bool} : (D.bl i).eqOk = true := by
  simp [D.eqOk, D.pure, D.py, SeqAt.shaped, PyData.canLay0, PyData.depth]
theorem eqOk_non : D.non.eqOk = true := by
  simp [D.eqOk, D.pure, D.py, SeqAt.shaped, PyData.canLay0, PyData.depth]
theorem cmp_eq {d e : D} (h1 : d.eqOk = true) (h2 : e.eqOk = true) {c c' : Ct} (hc : ctD c = some d) (hc' : ctD c' = some e) : cmpCt .eq c c' = some (d.eqb e) := by
  simp only [cmpCt, hc, hc', h1, h2, Bool.and_true, if_true]
theorem cmp_ne {d e : D} (h1 : d.eqOk = true) (h2 : e.eqOk = true) {c c' : Ct} (hc : ctD c = some d) (hc' : ctD c' = some e) : cmpCt .ne c c' = some (!d.eqb e) := by
  simp only [cmpCt, hc, hc', h1, h2, Bool.and_true, if_true]
theorem cmp_eqI {i j : Int} : cmpCt .eq (.d (.int i)) (.d (.int j)) = some (decide (i = j)) := by
  rw [cmp_eq eqOk_int eqOk_int rfl rfl]; simp only [D.eqb, Option.some.injEq]
  by_cases h : i = j <;> simp [h]
theorem cmp_neI {i j : Int} : cmpCt .ne (.d (.int i)) (.d (.int j)) = some (decide (i ≠ j)) := by
  rw [cmp_ne eqOk_int eqOk_int rfl rfl]; simp only [D.eqb, Option.some.injEq]
  by_cases h : i = j <;> simp [h]
theorem cmp_eqB {i j : Bool} : cmpCt .eq (.d (.bl i)) (.d (.bl j)) = some (i == j) := by
  rw [cmp_eq eqOk_bl eqOk_bl rfl rfl]; simp only [D.eqb]
theorem cmp_neB {i j : Bool} : cmpCt .ne (.d (.bl i)) (.d (.bl j)) = some (!(i == j)) := by
  rw [cmp_ne eqOk_bl eqOk_bl rfl rfl]; simp only [D.eqb]
theorem isn_non : cmpCt .isn (.d .non) (.d .non) = some true := rfl
theorem isn_bl {i j : Bool} : cmpCt .isn (.d (.bl i)) (.d (.bl j)) = some (i == j) := rfl
theorem notn_bl {i j : Bool} : cmpCt .notn (.d (.bl i)) (.d (.bl j)) = some (!(i == j)) := rfl
theorem isn_tup {xs : List D} : cmpCt .isn (.d (.tup xs)) (.d .non) = some false := rfl
theorem isn_int {i : Int} : cmpCt .isn (.d (.int i)) (.d .non) = some false := rfl
theorem notn_non : cmpCt .notn (.d .non) (.d .non) = some false := rfl
theorem notn_tup {xs : List D} : cmpCt .notn (.d (.tup xs)) (.d .non) = some true := rfl
theorem notn_int {i : Int} : cmpCt .notn (.d (.int i)) (.d .non) = some true := rfl
/-! norm: casts go up -/
theorem cast_add {a b : Nat} : (a : Int) + (b : Int) = ((a + b : Nat) : Int) := (Int.natCast_add a b).symm
theorem cast_addL {a n : Nat} : (a : Int) + (no_index (OfNat.ofNat n) : Int) = ((a + OfNat.ofNat n : Nat) : Int) := (Int.natCast_add a n).symm
theorem cast_addR {a n : Nat} : (no_index (OfNat.ofNat n) : Int) + (a : Int) = ((OfNat.ofNat n + a : Nat) : Int) := (Int.natCast_add n a).symm
theorem cast_mul {a b : Nat} : (a : Int) * (b : Int) = ((a * b : Nat) : Int) := (Int.natCast_mul a b).symm
theorem cast_mulR {a n : Nat} : (no_index (OfNat.ofNat n) : Int) * (a : Int) = ((OfNat.ofNat n * a : Nat) : Int) := (Int.natCast_mul n a).symm
theorem cast_mod {a b : Nat} : (a : Int) % (b : Int) = ((a % b : Nat) : Int) := (Int.natCast_emod a b).symm
theorem cast_modL {a n : Nat} : (a : Int) % (no_index (OfNat.ofNat n) : Int) = ((a % OfNat.ofNat n : Nat) : Int) := (Int.natCast_emod a n).symm
theorem cast_div {a b : Nat} : (a : Int) / (b : Int) = ((a / b : Nat) : Int) := (Int.natCast_ediv a b).symm
theorem cast_divL {a n : Nat} : (a : Int) / (no_index (OfNat.ofNat n) : Int) = ((a / OfNat.ofNat n : Nat) : Int) := (Int.natCast_ediv a n).symm
theorem cast_sub {a b : Nat} (h : b ≤ a) : (a : Int) - (b : Int) = ((a - b : Nat) : Int) := (Int.ofNat_sub h).symm
theorem cast_subL {a n : Nat} (h : OfNat.ofNat n ≤ a) : (a : Int) - (no_index (OfNat.ofNat n) : Int) = ((a - OfNat.ofNat n : Nat) : Int) := (Int.ofNat_sub h).symm
theorem cast_lt {a b : Nat} : ((a : Int) < (b : Int)) = (a < b) := propext Int.ofNat_lt
theorem cast_le {a b : Nat} : ((a : Int) ≤ (b : Int)) = (a ≤ b) := propext Int.ofNat_le
theorem cast_eq {a b : Nat} : ((a : Int) = (b : Int)) = (a = b) := propext Int.ofNat_inj
theorem cast_ltL {a n : Nat} : ((a : Int) < (no_index (OfNat.ofNat n) : Int)) = (a < OfNat.ofNat n) := propext (Int.ofNat_lt (n := a) (m := n))
theorem cast_ltR {a n : Nat} : ((no_index (OfNat.ofNat n) : Int) < (a : Int)) = (OfNat.ofNat n < a) := propext (Int.ofNat_lt (n := n) (m := a))
theorem cast_leL {a n : Nat} : ((a : Int) ≤ (no_index (OfNat.ofNat n) : Int)) = (a ≤ OfNat.ofNat n) := propext (Int.ofNat_le (m := a) (n := n))
theorem cast_leR {a n : Nat} : ((no_index (OfNat.ofNat n) : Int) ≤ (a : Int)) = (OfNat.ofNat n ≤ a) := propext (Int.ofNat_le (m := n) (n := a))
theorem cast_eqL {a n : Nat} : ((a : Int) = (no_index (OfNat.ofNat n) : Int)) = (a = OfNat.ofNat n) := propext (Int.ofNat_inj (m := a) (n := n))
theorem cast_max {a b : Nat} : (if dc ((b : Int) > (a : Int)) = true then (b : Int) else (a : Int)) = ((max a b : Nat) : Int) := by
  rw [dc_eq]
  by_cases h : a < b
  · rw [if_pos (by simpa using h)]; omega
  · rw [if_neg (by simpa using h)]; omega
theorem cast_min {a b : Nat} : (if dc ((b : Int) < (a : Int)) = true then (b : Int) else (a : Int)) = ((min a b : Nat) : Int) := by
  rw [dc_eq]
  by_cases h : b < a
  · rw [if_pos (by simpa using h)]; omega
  · rw [if_neg (by simpa using h)]; omega
/-! indices -/
theorem atI_nat {α : Type} {xs : List α} {k : Nat} : atI xs (k : Int) = xs[k]? := by
  unfold atI ixN
  rw [if_pos (by omega)]
  by_cases h : k < xs.length
  · rw [if_pos (by omega)]; rfl
  · rw [if_neg (by omega)]; simp; omega
theorem atI_lit {α : Type} {xs : List α} {n : Nat} : atI xs (no_index (OfNat.ofNat n) : Int) = xs[(OfNat.ofNat n : Nat)]? := atI_nat
theorem ixN_nat {n k : Nat} (h : k < n) : ixN n (k : Int) = some k := by
  unfold ixN
  rw [if_pos (by omega), if_pos (by omega)]; rfl
theorem ixN_lit {n k : Nat} (h : OfNat.ofNat k < n) : ixN n (no_index (OfNat.ofNat k) : Int) = some (OfNat.ofNat k) := ixN_nat h
theorem idx_lst {xs : List D} {i : Int} : idxCt (.o (.lst xs)) (.d (.int i)) = atI xs i := rfl
theorem idx_tup {xs : List D} {i : Int} : idxCt (.d (.tup xs)) (.d (.int i)) = atI xs i := rfl
theorem idx_klst {xs : List D} {i : Int} : idxCt (.d (.klst xs)) (.d (.int i)) = atI xs i := rfl
theorem idx_dk {kvs : List (Key × D)} {d : D} : idxCt (.o (.dk kvs)) (.d d) = (keyOf d).bind fun k => lookD kvs k := by cases d <;> rfl
theorem idx_dt {kvs : List (List Int × D)} {d : D} : idxCt (.o (.dt kvs)) (.d d) = (tkeyOf d).bind fun k => lookD kvs k := by cases d <;> rfl
theorem keyOf_int {i : Int} : keyOf (.int i) = some (.inl i) := rfl
theorem keyOf_str {i : Str} : keyOf (.str i) = some (.inr i) := rfl
theorem tkeyOf_two {i j : Int} : tkeyOf (.tup [.int i, .int j]) = some [i, j] := rfl
theorem len_lst {xs : List D} : lenCt (.o (.lst xs)) = some xs.length := rfl
theorem len_tup {xs : List D} : lenCt (.d (.tup xs)) = some xs.length := rfl
theorem len_klst {xs : List D} : lenCt (.d (.klst xs)) = some xs.length := rfl
theorem len_dk {xs : List (Key × D)} : lenCt (.o (.dk xs)) = some xs.length := rfl
theorem slc_lst {xs : List D} {lo hi : Option Int} : slcCt (.o (.lst xs)) lo hi = some (.new (.lst (cutD xs lo hi))) := rfl
theorem slc_tup {xs : List D} {lo hi : Option Int} : slcCt (.d (.tup xs)) lo hi = some (.val (.tup (cutD xs lo hi))) := rfl
theorem slc_klst {xs : List D} {lo hi : Option Int} : slcCt (.d (.klst xs)) lo hi = some (.new (.lst (cutD xs lo hi))) := rfl
theorem cut_hi {α : Type} {xs : List α} {k : Nat} : cutD xs none (some (k : Int)) = xs.take k := by
  unfold cutD
  rw [HT.sIx_nat, HT.sIx_none]
  simp only [List.drop_zero, Nat.sub_zero]
  by_cases h : k ≤ xs.length
  · rw [Nat.min_eq_left h]
  · rw [Nat.min_eq_right (by omega), List.take_of_length_le (by omega), List.take_of_length_le (by omega)]
theorem cut_hiL {α : Type} {xs : List α} {k : Nat} : cutD xs none (some (no_index (OfNat.ofNat k) : Int)) = xs.take (OfNat.ofNat k) := cut_hi
theorem cut_lo {α : Type} {xs : List α} {k : Nat} : cutD xs (some (k : Int)) none = xs.drop k := by
  unfold cutD
  rw [HT.sIx_nat, HT.sIx_none]
  by_cases h : k ≤ xs.length
  · rw [Nat.min_eq_left h, List.take_of_length_le (by simp)]
  · rw [Nat.min_eq_right (by omega)]; simp; omega
/-! built-in functions -/
theorem intCt_int {i : Int} : intCt (.d (.int i)) = some i := rfl
theorem blt_1 {f : Blt} {c : Ct} : bltCt f [c] = blt1 f c := rfl
theorem blt_2 {f : Blt} {c d : Ct} : bltCt f [c, d] = blt2 f c d := rfl
theorem b_len {c : Ct} : blt1 .len c = (lenCt c).map fun (n : Nat) => .val (.int (n : Int)) := rfl
theorem b_tupL {ds : List D} : blt1 .tuple (.o (.lst ds)) = some (.val (.tup ds)) := rfl
theorem b_tupT {ds : List D} : blt1 .tuple (.d (.tup ds)) = some (.val (.tup ds)) := rfl
theorem b_lstL {ds : List D} : blt1 .list (.o (.lst ds)) = some (.new (.lst ds)) := rfl
theorem b_lstT {ds : List D} : blt1 .list (.d (.tup ds)) = some (.new (.lst ds)) := rfl
theorem b_intI {i : Int} : blt1 .int (.d (.int i)) = some (.val (.int i)) := rfl
theorem b_intB {b : Bool} : blt1 .int (.d (.bl b)) = some (.val (.int (if b then 1 else 0))) := rfl
theorem b_all {ds : List D} : blt1 .all (.o (.lst ds)) = (blsOf ds).map fun l => .val (.bl (l.all id)) := rfl
theorem b_any {ds : List D} : blt1 .any (.o (.lst ds)) = (blsOf ds).map fun l => .val (.bl (l.any id)) := rfl
theorem b_max2 {i j : Int} : blt2 .max2 (.d (.int i)) (.d (.int j)) = some (.val (.int (if dc (j > i) = true then j else i))) := rfl
theorem b_min2 {i j : Int} : blt2 .min2 (.d (.int i)) (.d (.int j)) = some (.val (.int (if dc (j < i) = true then j else i))) := rfl
theorem b_maxN {a b : Nat} : blt2 .max2 (.d (.int (a : Int))) (.d (.int (b : Int))) = some (.val (.int ((max a b : Nat) : Int))) := by rw [b_max2, cast_max]
theorem b_minN {a b : Nat} : blt2 .min2 (.d (.int (a : Int))) (.d (.int (b : Int))) = some (.val (.int ((min a b : Nat) : Int))) := by rw [b_min2, cast_min]
theorem b_maxL {a b : Nat} : blt2 .max2 (.d (.int (no_index (OfNat.ofNat a)))) (.d (.int (b : Int))) = some (.val (.int ((max (OfNat.ofNat a) b : Nat) : Int))) := b_maxN
theorem b_minL {a b : Nat} : blt2 .min2 (.d (.int (no_index (OfNat.ofNat a)))) (.d (.int (b : Int))) = some (.val (.int ((min (OfNat.ofNat a) b : Nat) : Int))) := b_minN
theorem b_istup {c : Ct} : blt1 .istuple c = (tyCt c).map fun t => .val (.bl (t == "tuple")) := rfl
theorem b_islst {c : Ct} : blt1 .islist c = (tyCt c).map fun t => .val (.bl (t == "list")) := rfl
theorem b_isbl {c : Ct} : blt1 .isbool c = (tyCt c).map fun t => .val (.bl (t == "bool")) := rfl
theorem b_islt {c : Ct} : blt1 .islt c = (tyCt c).map fun t => .val (.bl (t == "list" || t == "tuple")) := rfl
theorem small_nat {n : Nat} (h : n ≤ 16777216) : small62 (n : Int) = true := dc_iff.mpr ⟨by omega, by omega⟩
theorem small_lit {n : Nat} (h : OfNat.ofNat n ≤ 16777216) : small62 (no_index (OfNat.ofNat n) : Int) = true := small_nat h
/-- the list of f 0, f 1, .. -/
def F (n : Nat) (f : Nat → D) : List D := (List.range n).map f
def FI (n : Nat) (f : Nat → Itm) : List Itm := (List.range n).map f
theorem F_len {n : Nat} {f : Nat → D} : (F n f).length = n := by simp [F]
theorem F_get {n : Nat} {f : Nat → D} {k : Nat} (h : k < n) : (F n f)[k]? = some (f k) := by simp [F, h]
theorem F_get_none {n : Nat} {f : Nat → D} {k : Nat} (h : n ≤ k) : (F n f)[k]? = none := by simp [F, h]
theorem F_ext {n : Nat} {f g : Nat → D} (h : ∀ k, k < n → f k = g k) : F n f = F n g := by
  unfold F
  exact List.map_congr_left fun k hk => h k (List.mem_range.mp hk)
theorem F_inj {n m : Nat} {f g : Nat → D} (h : F n f = F m g) : n = m ∧ ∀ k, k < n → f k = g k := by
  have e : n = m := by have := congrArg List.length h; rwa [F_len, F_len] at this
  subst e
  refine ⟨rfl, fun k hk => ?_⟩
  have := congrArg (fun l => l[k]?) h
  simp only [F_get hk] at this
  exact Option.some.inj this
theorem F_succ {n : Nat} {f : Nat → D} : F (n + 1) f = F n f ++ [f n] := by simp [F, List.range_succ]
theorem F_zero {f : Nat → D} : F 0 f = [] := rfl
/-- a function with one place otherwise -/
def up {α : Type} (f : Nat → α) (k : Nat) (v : α) : Nat → α := fun j => if j = k then v else f j
theorem up_same {α : Type} {f : Nat → α} {k : Nat} {v : α} : up f k v k = v := by simp [up]
theorem up_ne {α : Type} {f : Nat → α} {k j : Nat} {v : α} (h : j ≠ k) : up f k v j = f j := by simp [up, h]
theorem F_app {n : Nat} {f : Nat → D} {d : D} : F n f ++ [d] = F (n + 1) (up f n d) := by
  rw [F_succ, up_same]
  congr 1
  exact F_ext fun k hk => (up_ne (by omega)).symm
theorem F_set {n : Nat} {f : Nat → D} {k : Nat} {v : D} : (F n f).set k v = F n (up f k v) := by
  refine List.ext_getElem? fun j => ?_
  by_cases hj : j < n
  · rw [F_get hj, List.getElem?_set]
    by_cases e : k = j
    · subst e; rw [up_same]; simp [F_len, hj]
    · rw [if_neg e, up_ne (Ne.symm e), F_get hj]
  · rw [F_get_none (by omega), List.getElem?_eq_none (by rw [List.length_set, F_len]; omega)]
theorem F_rep {n : Nat} {d : D} : List.replicate n d = F n (fun _ => d) := by
  refine List.ext_getElem? fun j => ?_
  by_cases hj : j < n
  · rw [F_get hj]; simp [hj]
  · rw [F_get_none (by omega)]; simp; omega
theorem F_of (xs : List D) (d : D) : xs = F xs.length (fun k => xs.getD k d) := by
  refine List.ext_getElem? fun j => ?_
  by_cases hj : j < xs.length
  · rw [F_get hj]; simp [hj]
  · rw [F_get_none (by omega)]; simp; omega
theorem F_mapv {n : Nat} {f : Nat → D} : (F n f).map Itm.v = FI n (fun k => .v (f k)) := by simp [F, FI]
theorem F_enum {n : Nat} {f : Nat → D} : enumFrom 0 (F n f) = FI n (fun k => .p (.int (k : Int)) (f k)) := by
  have key : ∀ (l : List D) (j : Nat), enumFrom j l = (l.zipIdx j).map fun p => Itm.p (.int (p.2 : Int)) p.1 := by
    intro l
    induction l with
    | nil => intro j; rfl
    | cons x xs ih => intro j; simp only [enumFrom, List.zipIdx_cons, List.map_cons, ih]
  rw [key]
  refine List.ext_getElem? fun j => ?_
  simp only [F, FI, List.getElem?_zipIdx, List.getElem?_map, Option.map_map]
  by_cases hj : j < n
  · simp [hj]
  · rw [List.getElem?_eq_none (by simp; omega)]; rfl
theorem F_zip {n m : Nat} {f g : Nat → D} : zipD (F n f) (F m g) = FI (min n m) (fun k => .p (f k) (g k)) := by
  have key : ∀ (l l' : List D), zipD l l' = (l.zip l').map fun p => Itm.p p.1 p.2 := by
    intro l
    induction l with
    | nil => intro l'; rfl
    | cons x xs ih =>
      intro l'
      cases l' with
      | nil => rfl
      | cons y ys => simp only [zipD, List.zip_cons_cons, List.map_cons, ih]
  rw [key]
  refine List.ext_getElem? fun j => ?_
  simp only [FI, List.getElem?_map, List.getElem?_zip_eq_some]
  by_cases hj : j < min n m
  · have h1 : j < n := by omega
    have h2 : j < m := by omega
    have : ((F n f).zip (F m g))[j]? = some (f j, g j) := by
      rw [List.getElem?_zip_eq_some]; exact ⟨F_get h1, F_get h2⟩
    rw [this]; simp [hj]
  · rw [List.getElem?_eq_none (by simp [F_len]; omega), List.getElem?_eq_none (by simp; omega)]; rfl
theorem rng_1 {n : Nat} (h : n ≤ 16777216) : rngD [.int (n : Int)] = some (FI n fun k => .v (.int (k : Int))) := by
  simp only [rngD, small_nat h, if_true, rangeL, FI, List.map_map, Int.sub_zero, Int.toNat_natCast, Int.zero_add]
  rfl
theorem rng_1L {n : Nat} (h : OfNat.ofNat n ≤ 16777216) : rngD [.int (no_index (OfNat.ofNat n) : Int)] = some (FI (OfNat.ofNat n) fun k => .v (.int (k : Int))) := rng_1 h
theorem rng_2 {a n : Nat} (h : a ≤ 16777216) (h' : n ≤ 16777216) : rngD [.int (a : Int), .int (n : Int)] = some (FI (n - a) fun k => .v (.int ((a + k : Nat) : Int))) := by
  simp only [rngD, small_nat h, small_nat h', and_self, if_true, rangeL, FI, List.map_map]
  have : ((n : Int) - (a : Int)).toNat = n - a := by omega
  rw [this]; rfl
theorem rng_2L {a n : Nat} (h : OfNat.ofNat a ≤ 16777216) (h' : n ≤ 16777216) : rngD [.int (no_index (OfNat.ofNat a) : Int), .int (n : Int)] = some (FI (n - OfNat.ofNat a) fun k => .v (.int ((OfNat.ofNat a + k : Nat) : Int))) := rng_2 h h'
theorem b_lrange {n : Nat} (h : n ≤ 16777216) : blt1 .lrange (.d (.int (n : Int))) = some (.new (.lst (F n fun k => .int (k : Int)))) := by
  have : n ≤ sizeLine := by rw [sizeLine_eq]; exact h
  simp only [blt1, intCt, Option.bind_some, small_nat h, Int.toNat_natCast, this, and_self, if_true, rangeL, F, Int.sub_zero, Int.zero_add]
theorem b_trange {n : Nat} (h : n ≤ 16777216) : blt1 .trange (.d (.int (n : Int))) = some (.val (.tup (F n fun k => .int (k : Int)))) := by
  have : n ≤ sizeLine := by rw [sizeLine_eq]; exact h
  simp only [blt1, intCt, Option.bind_some, small_nat h, Int.toNat_natCast, this, and_self, if_true, rangeL, F, Int.sub_zero, Int.zero_add]
theorem items_tup {ds : List D} : itemsD (.tup ds) = some ds := rfl
theorem items_lst {ds : List D} : itemsD (.lst ds) = some ds := rfl
theorem items_klst {ds : List D} : itemsD (.klst ds) = some ds := rfl
theorem both_tt {xs ys : List D} : bothD (.tup xs) (.tup ys) = some (xs, ys) := rfl
theorem both_ll {xs ys : List D} : bothD (.lst xs) (.lst ys) = some (xs, ys) := rfl
theorem setO_lst {xs : List D} {i : Int} {v : D} : setO (.lst xs) (.int i) v = (ixN xs.length i).map fun j => .lst (xs.set j v) := rfl
theorem setO_dk {kvs : List (Key × D)} {d v : D} (h : kvs.length < 16777216) : setO (.dk kvs) d v = (keyOf d).map fun k => .dk (putD kvs k v) := by
  have e : kvs.length < sizeLine := by rw [sizeLine_eq]; exact h
  cases d <;> simp only [setO, keyOf, Option.bind_none, Option.map_none, Option.bind_some, Option.map_some, e, if_true]
theorem setO_dt {kvs : List (List Int × D)} {d v : D} (h : kvs.length < 16777216) : setO (.dt kvs) d v = (tkeyOf d).map fun k => .dt (putD kvs k v) := by
  have e : kvs.length < sizeLine := by rw [sizeLine_eq]; exact h
  simp only [setO, e, if_true]
  cases tkeyOf d <;> rfl
theorem mut_append {xs : List D} {d : D} (h : xs.length < 16777216) : mutO .append (.lst xs) [d] = some (.lst (xs ++ [d]), .non) := by
  have e : xs.length < sizeLine := by rw [sizeLine_eq]; exact h
  simp only [mutO, mutL, one, Option.bind_some, e, if_true, Option.map_some]
theorem mut_extend {xs ys : List D} (h : xs.length + ys.length ≤ 16777216) : mutO .extend (.lst xs) [.lst ys] = some (.lst (xs ++ ys), .non) := by
  have e : xs.length + ys.length ≤ sizeLine := by rw [sizeLine_eq]; exact h
  simp only [mutO, mutL, one, dLst, Option.bind_some, e, if_true, Option.map_some]
theorem mut_pop1 {xs : List D} {k : Nat} {d : D} (h : k < xs.length) (hz : xs.length ≤ 16777216) (hd : xs[k]? = some d) : mutO .pop1 (.lst xs) [.int (k : Int)] = some (.lst (xs.eraseIdx k), d) := by
  have e : dc (-(2 ^ 63) ≤ (k : Int) ∧ (k : Int) < 2 ^ 63) = true := dc_iff.mpr ⟨by omega, by omega⟩
  have e2 : seqIndex? (k : Int) xs.length = some k := by
    unfold seqIndex?
    simp; omega
  simp only [mutO, mutL, one, dInt, Option.bind_some, e, if_true, e2, hd, Option.map_some]
theorem mthT_append {xs : List D} : mthT .append (.o (.lst xs)) = some "list" := rfl
theorem mthT_extend {xs : List D} : mthT .extend (.o (.lst xs)) = some "list" := rfl
theorem mthT_pop0 {xs : List D} : mthT .pop0 (.o (.lst xs)) = some "list" := rfl
theorem mthT_pop1 {xs : List D} : mthT .pop1 (.o (.lst xs)) = some "list" := rfl
theorem mthT_clear {xs : List D} : mthT .clear (.o (.lst xs)) = some "list" := rfl
theorem mthT_index {xs : List D} : mthT .index (.o (.lst xs)) = some "list" := rfl
theorem mthT_indexT {xs : List D} : mthT .index (.d (.tup xs)) = some "tuple" := rfl
theorem mthT_count {xs : List D} : mthT .count (.o (.lst xs)) = some "list" := rfl
theorem mthT_countT {xs : List D} : mthT .count (.d (.tup xs)) = some "tuple" := rfl
theorem ask_count {c : Ct} {d : D} : askO .count c [d] = (cntOf c d).map fun (j : Nat) => .val (.int (j : Int)) := rfl
theorem mthT_getK {xs : List (Key × D)} : mthT .get (.o (.dk xs)) = some "dict" := rfl
theorem mthT_getT {xs : List (List Int × D)} : mthT .get (.o (.dt xs)) = some "dict" := rfl
theorem ask_index {c : Ct} {d : D} : askO .index c [d] = (idxOf c d).map fun (j : Nat) => .val (.int (j : Int)) := rfl
theorem ask_get {c : Ct} {d e : D} : askO .get c [d, e] = (getOf c d e).map .val := rfl
theorem get_dk {kvs : List (Key × D)} {d e : D} : getOf (.o (.dk kvs)) d e = (keyOf d).map fun k => (lookD kvs k).getD e := rfl
theorem get_dt {kvs : List (List Int × D)} {d e : D} : getOf (.o (.dt kvs)) d e = (tkeyOf d).map fun k => (lookD kvs k).getD e := rfl
theorem backO_nil {s : Sta} : backO [] [] s = some s := rfl
theorem backO_cons {s : Sta} {i : Nat} {l : List Nat} {o : O} {os : List O} : backO (i :: l) (o :: os) s = backO l os ⟨s.σ.set i (.own o), s.st⟩ := rfl
theorem rOf_val {d : D} : rOf (.val d) = .val d := rfl
theorem rOf_new {o : O} : rOf (.new o) = .new o := rfl
theorem endR_val {m : List Nat} {d : D} : endR m s (.val d) = some (.val d) := rfl
theorem endR_new {m : List Nat} {o : O} : endR m s (.new o) = some (.new o) := rfl
def endSl : Option Sl → Option Rt
  | some (.own o) => some (.new o)
  | some (.val d) => some (.val d)
  | _ => none
theorem endSl_own {o : O} : endSl (some (.own o)) = some (.new o) := rfl
theorem endSl_val {d : D} : endSl (some (.val d)) = some (.val d) := rfl
theorem endR_slot {m : List Nat} {i : Nat} (h : i ∉ m) : endR m s (.slot i) = endSl s.σ[i]? := by
  unfold endR endSl
  simp only [h, if_false] <;> rfl
theorem endR_s0 {i : Nat} : endR [] s (.slot i) = endSl s.σ[i]? := endR_slot (by simp)
theorem endR_s1 {i j : Nat} (h : i ≠ j) : endR [j] s (.slot i) = endSl s.σ[i]? := endR_slot (by simpa using h)
theorem outs_nil {σ : List Sl} : outsOf σ [] = some [] := rfl
theorem outs_cons {σ : List Sl} {j : Nat} {js : List Nat} : outsOf σ (j :: js) = (ownO σ[j]?).bind fun o => (outsOf σ js).map (o :: ·) := by
  unfold outsOf ownO
  cases σ[j]? with
  | none => simp
  | some x =>
    cases x with
    | no => simp
    | val d => simp
    | own o =>
      cases h : outsOf σ js <;> cases js <;> simp_all [outsOf]
theorem wipe_nil {σ : List Sl} : wipeS σ [] = σ := rfl
theorem wipe_cons {σ : List Sl} {v : Nat} {vs : List Nat} : wipeS σ (v :: vs) = (wipeS σ vs).set v .no := rfl
theorem back_nil {σ τ : List Sl} : backS σ τ [] = τ := rfl
theorem back_cons {σ τ : List Sl} {v : Nat} {vs : List Nat} : backS σ τ (v :: vs) = (backS σ τ vs).set v (σ.getD v .no) := rfl
/-! dicts -/
theorem look_put {κ : Type} [DecidableEq κ] {kvs : List (κ × D)} {k k' : κ} {v : D} : lookD (putD kvs k v) k' = if k' = k then some v else lookD kvs k' := by
  unfold lookD putD
  split
  · rename_i h
    by_cases e : k' = k
    · subst e
      simp only [if_true]
      induction kvs with
      | nil => simp at h
      | cons a r ih =>
        by_cases ea : a.1 = k'
        · simp [ea]
        · simp only [List.map_cons, ea, if_false, List.find?_cons]
          simp only [decide_false, Bool.false_eq_true, if_false, List.any_cons, ea, Bool.false_or] at h ⊢
          exact ih h
    · rw [if_neg e]
      congr 1
      clear h
      induction kvs with
      | nil => rfl
      | cons a r ih =>
        by_cases ea : a.1 = k
        · have ne : a.1 ≠ k' := fun x => e (x ▸ ea)
          simp only [List.map_cons, ea, if_true, List.find?_cons]
          have : k ≠ k' := fun x => e x.symm
          simp [this, ih]
        · simp only [List.map_cons, ea, if_false, List.find?_cons]
          by_cases e' : a.1 = k'
          · simp [e']
          · simp [e', ih]
  · rename_i h
    have hn : ∀ a ∈ kvs, ¬ a.1 = k := by
      intro a ha e
      exact h (List.any_eq_true.mpr ⟨a, ha, by simp [e]⟩)
    rw [List.find?_append]
    by_cases e : k' = k
    · subst e
      rw [if_pos rfl]
      have : kvs.find? (fun kv => decide (kv.1 = k')) = none := by
        rw [List.find?_eq_none]
        intro a ha; simp [hn a ha]
      simp [this]
    · rw [if_neg e]
      have : k ≠ k' := fun x => e x.symm
      simp [this]
theorem look_nil {κ : Type} [DecidableEq κ] {k : κ} : lookD ([] : List (κ × D)) k = none := rfl
theorem put_len {κ : Type} [DecidableEq κ] {kvs : List (κ × D)} {k : κ} {v : D} : (putD kvs k v).length ≤ kvs.length + 1 := by
  unfold putD
  split <;> simp
end
/-! ### loops -/
section
variable {σ : List Sl} {st : List O}
/-- what stands behind a turn -/
def kTurn (P : Sta → Prop) (Q : Fl → Sta → Prop) (f : Fl) (s : Sta) : Prop := match f with
  | .nx => P s
  | .rt r => Q (.rt r) s
theorem kTurn_nx {P : Sta → Prop} {Q : Fl → Sta → Prop} {s : Sta} : kTurn P Q .nx s = P s := rfl
theorem kTurn_rt {P : Sta → Prop} {Q : Fl → Sta → Prop} {s : Sta} {r : R} : kTurn P Q (.rt r) s = Q (.rt r) s := rfl
theorem for_list {α : Type} {tg : Itm → M Unit} {body : M Fl} {Q : Fl → Sta → Prop} (it : α → Itm) (P : List α → Sta → Prop)
    (hs : ∀ x r s, P (x :: r) s → V (tg (it x)) (fun _ s2 => V body (kTurn (P r) Q) s2) s) (hq : ∀ s, P [] s → Q .nx s) :
    ∀ (xs : List α) (s : Sta), P xs s → V (forLoop tg body (xs.map it)) Q s
  | [], s, h => ⟨.nx, s, rfl, hq s h⟩
  | x :: xs, s, h => by
    obtain ⟨_, s2, e2, f, s3, e3, h3⟩ := hs x xs s h
    cases f with
    | nx =>
      obtain ⟨a, s', e, q⟩ := for_list it P hs hq xs s3 h3
      refine ⟨a, s', ?_, q⟩
      simp only [List.map_cons]
      unfold forLoop
      simp only [M.bind, e2, e3, e]
    | rt x =>
      refine ⟨.rt x, s3, ?_, h3⟩
      simp only [List.map_cons]
      unfold forLoop
      simp only [M.bind, e2, e3]
theorem for_ix {tg : Itm → M Unit} {body : M Fl} {Q : Fl → Sta → Prop} {n : Nat} {it : Nat → Itm} (P : Nat → Sta → Prop) {s : Sta} (h0 : P 0 s)
    (hs : ∀ k, k < n → ∀ s, P k s → V (tg (it k)) (fun _ s2 => V body (kTurn (P (k + 1)) Q) s2) s) (hq : ∀ s, P n s → Q .nx s) :
    V (forLoop tg body (FI n it)) Q s := by
  refine for_list it (fun l s => ∃ k, k ≤ n ∧ l = List.range' k (n - k) ∧ P k s) ?_ ?_ (List.range n) s ⟨0, Nat.zero_le _, by rw [List.range_eq_range']; rfl, h0⟩
  · rintro x r s ⟨k, hk, e, h⟩
    have hlt : k < n := by
      by_cases h' : k < n
      · exact h'
      · have : n - k = 0 := by omega
        rw [this] at e; simp at e
    have : n - k = (n - (k + 1)) + 1 := by omega
    rw [this, List.range'_succ] at e
    obtain ⟨rfl, rfl⟩ := List.cons.inj e
    refine W.mono (hs x hlt s h) fun _ s2 h2 => W.mono h2 fun f s3 h3 => ?_
    cases f with
    | nx => exact ⟨x + 1, hlt, rfl, h3⟩
    | rt r => exact h3
  · rintro s ⟨k, hk, e, h⟩
    have : n - k = 0 := by
      cases h' : n - k with
      | zero => rfl
      | succ m => rw [h', List.range'_succ] at e; cases e
    have : k = n := by omega
    subst this
    exact hq s h
theorem lc_ix {vs : List Nat} {tg : Itm → M Unit} {tst : M Bool} {el : M D} {Q : List D → Sta → Prop} {n : Nat} {it : Nat → Itm} (P : Nat → List D → Sta → Prop) {s : Sta} (h0 : P 0 [] s) (hn : n ≤ 16777216)
    (hl : ∀ k acc s, P k acc s → acc.length ≤ k)
    (hs : ∀ k, k < n → ∀ acc s, P k acc s → V (tg (it k)) (fun _ s2 => V tst (fun b s3 => vIf b (V el (fun e s4 => P (k + 1) (acc ++ [e]) s4) s3) (P (k + 1) acc s3)) s2) ⟨wipeS s.σ vs, s.st⟩) (hq : ∀ acc s, P n acc s → Q acc s) :
    V (lcLoop vs tg tst el (FI n it) []) Q s := by
  refine W.mono (lcLoop_W (fun l acc s => ∃ k, k ≤ n ∧ l = (List.range' k (n - k)).map it ∧ P k acc s) ?_ (FI n it) [] s ⟨0, Nat.zero_le _, by unfold FI; rw [List.range_eq_range']; rfl, h0⟩) ?_
  · rintro x r acc s ⟨k, hk, e, h⟩
    have hlt : k < n := by
      by_cases h' : k < n
      · exact h'
      · have : n - k = 0 := by omega
        rw [this] at e; simp at e
    have : n - k = (n - (k + 1)) + 1 := by omega
    rw [this, List.range'_succ, List.map_cons] at e
    obtain ⟨rfl, rfl⟩ := List.cons.inj e
    refine W.mono (hs k hlt acc s h) fun _ s2 h2 => W.mono h2 fun b s3 h3 => ?_
    cases b with
    | true =>
      simp only [if_true]
      exact W.mono h3 fun d s4 h4 => ⟨by have := hl k acc s h; rw [sizeLine_eq]; omega, k + 1, hlt, rfl, h4⟩
    | false =>
      simp only [Bool.false_eq_true, if_false]
      exact ⟨k + 1, hlt, rfl, h3⟩
  · rintro acc s ⟨k, hk, e, h⟩
    have : n - k = 0 := by
      cases h' : n - k with
      | zero => rfl
      | succ m => rw [h', List.range'_succ] at e; cases e
    have : k = n := by omega
    subst this
    exact hq acc s h
theorem wipe_len {σ : List Sl} : ∀ (vs : List Nat), (wipeS σ vs).length = σ.length
  | [] => rfl
  | v :: vs => by rw [wipe_cons, List.length_set, wipe_len vs]
theorem wipe_get {σ : List Sl} {j : Nat} : ∀ (vs : List Nat), (wipeS σ vs)[j]? = if j ∈ vs ∧ j < σ.length then some .no else σ[j]?
  | [] => by simp [wipeS]
  | v :: vs => by
    rw [wipe_cons, List.getElem?_set, wipe_get vs, wipe_len]
    by_cases e : v = j
    · subst e
      by_cases h : v < σ.length
      · simp [h]
      · simp [h]
    · simp only [e, if_false, List.mem_cons]
      have : ¬ j = v := fun x => e x.symm
      simp [this]
theorem back_wipe {σ τ : List Sl} : ∀ (vs : List Nat), (wipeS τ vs = wipeS σ vs) → backS σ τ vs = σ := by
  intro vs h
  have hl : τ.length = σ.length := by have := congrArg List.length h; rwa [wipe_len, wipe_len] at this
  have len : ∀ us : List Nat, (backS σ τ us).length = τ.length := by
    intro us
    induction us with
    | nil => rfl
    | cons u us ih => rw [back_cons, List.length_set, ih]
  have get : ∀ (us : List Nat) (j : Nat), (backS σ τ us)[j]? = if j ∈ us ∧ j < σ.length then σ[j]? else τ[j]? := by
    intro us
    induction us with
    | nil => intro j; simp [backS]
    | cons u us ih =>
      intro j
      rw [back_cons, List.getElem?_set, ih, len, hl]
      by_cases e : u = j
      · subst e
        by_cases h : u < σ.length
        · simp [h]
        · simp [h]; omega
      · have : ¬ j = u := fun x => e x.symm
        simp [e, this]
  refine List.ext_getElem? fun j => ?_
  rw [get]
  split
  · rfl
  · rename_i hn
    have := congrArg (fun l => l[j]?) h
    simp only [wipe_get, hl] at this
    rw [if_neg hn, if_neg hn] at this
    exact this
/-- a comprehension that changes nothing -/
theorem lc_map {vs : List Nat} {tg : Itm → M Unit} {tst : M Bool} {el : M D} {E : R → Sta → Prop} {n : Nat} {it : Nat → Itm} (f : Nat → D) (hn : n ≤ 16777216)
    (hs : ∀ k, k < n → V (tg (it k)) (fun _ s2 => V tst (fun b s3 => b = true ∧ V el (fun e s4 => e = f k ∧ s4.st = st ∧ wipeS s4.σ vs = wipeS σ vs) s3) s2) ⟨wipeS σ vs, st⟩)
    (hq : E (.new (.lst (F n f))) ⟨σ, st⟩) :
    vLc vs tg tst el (FI n it) E ⟨σ, st⟩ := by
  refine lc_ix (fun k acc s => acc = F k f ∧ s.st = st ∧ wipeS s.σ vs = wipeS σ vs) ⟨rfl, rfl, rfl⟩ hn ?_ ?_ ?_
  · rintro k acc s ⟨rfl, _, _⟩; rw [F_len]; exact Nat.le_refl _
  · rintro k hk acc s ⟨rfl, h1, h2⟩
    rw [h1, h2]
    refine W.mono (hs k hk) fun _ s2 h2 => W.mono h2 fun b s3 h3 => ?_
    obtain ⟨rfl, h3⟩ := h3
    refine W.mono h3 fun d s4 h4 => ?_
    obtain ⟨rfl, h4⟩ := h4
    exact ⟨F_succ.symm, h4⟩
  · rintro acc s ⟨rfl, h1, h2⟩
    rw [h1, back_wipe vs h2]
    exact hq
theorem lc_filter {vs : List Nat} {tg : Itm → M Unit} {tst : M Bool} {el : M D} {E : R → Sta → Prop} {n : Nat} {it : Nat → Itm} (p : Nat → Bool) (f : Nat → D) (hn : n ≤ 16777216)
    (hs : ∀ k, k < n → V (tg (it k)) (fun _ s2 => V tst (fun b s3 => b = p k ∧ vIf b (V el (fun e s4 => e = f k ∧ s4.st = st ∧ wipeS s4.σ vs = wipeS σ vs) s3) (s3.st = st ∧ wipeS s3.σ vs = wipeS σ vs)) s2) ⟨wipeS σ vs, st⟩)
    (hq : E (.new (.lst (((List.range n).filter p).map f))) ⟨σ, st⟩) :
    vLc vs tg tst el (FI n it) E ⟨σ, st⟩ := by
  refine lc_ix (fun k acc s => acc = ((List.range k).filter p).map f ∧ s.st = st ∧ wipeS s.σ vs = wipeS σ vs) ⟨rfl, rfl, rfl⟩ hn ?_ ?_ ?_
  · rintro k acc s ⟨rfl, _, _⟩
    rw [List.length_map]
    exact Nat.le_trans (List.length_filter_le _ _) (by simp)
  · rintro k hk acc s ⟨rfl, h1, h2⟩
    rw [h1, h2]
    refine W.mono (hs k hk) fun _ s2 h2 => W.mono h2 fun b s3 h3 => ?_
    obtain ⟨hb, h3⟩ := h3
    cases b with
    | true =>
      refine W.mono h3 fun d s4 h4 => ?_
      obtain ⟨rfl, h4⟩ := h4
      exact ⟨by simp [List.range_succ, List.filter_append, ← hb], h4⟩
    | false => exact ⟨by simp [List.range_succ, List.filter_append, ← hb], h3⟩
  · rintro acc s ⟨rfl, h1, h2⟩
    rw [h1, back_wipe vs h2]
    exact hq
/-- a comprehension that draws -/
theorem lc_dr {vs : List Nat} {tg : Itm → M Unit} {tst : M Bool} {el : M D} {E : R → Sta → Prop} {n : Nat} {it : Nat → Itm} (P : Nat → List D → Sta → Prop) {s : Sta} (h0 : P 0 [] s) (hn : n ≤ 16777216)
    (hl : ∀ k acc s, P k acc s → acc.length ≤ k)
    (hs : ∀ k, k < n → ∀ acc s, P k acc s → V (tg (it k)) (fun _ s2 => V tst (fun b s3 => vIf b (V el (fun e s4 => P (k + 1) (acc ++ [e]) s4) s3) (P (k + 1) acc s3)) s2) ⟨wipeS s.σ vs, s.st⟩) (hq : ∀ acc s2, P n acc s2 → E (.new (.lst acc)) ⟨backS s.σ s2.σ vs, s2.st⟩) :
    vLc vs tg tst el (FI n it) E s := lc_ix P h0 hn hl hs hq
/-- a while by a measure -/
theorem while_W {t : M Bool} {body : M Fl} {Q : Fl → Sta → Prop} (P : Nat → Sta → Prop)
    (hs : ∀ n s, P n s → V t (fun b s2 => vIf b (V body (kTurn (fun s3 => ∃ m, m < n ∧ P m s3) Q) s2) (Q .nx s2)) s) {fuel n : Nat} {s : Sta} (hf : n < fuel) (h0 : P n s) : V (whileLoop t body fuel) Q s := by
  refine W.mono (whileLoop_W P (fun s => Q .nx s) (fun r s => Q (.rt r) s) ?_ fuel n s hf h0) ?_
  · intro n s h
    refine W.mono (hs n s h) fun b s2 h2 => ?_
    cases b with
    | true =>
      simp only [if_true]
      refine W.mono h2 fun f s3 h3 => ?_
      cases f with
      | nx => exact h3
      | rt r => exact h3
    | false =>
      simp only [Bool.false_eq_true, if_false]
      exact h2
  · intro f s h
    cases f with
    | nx => exact h
    | rt r => exact h
end

end NH

set_option Elab.async false
set_option linter.all false
set_option maxRecDepth 100000
set_option maxHeartbeats 1000000
set_option autoImplicit false
namespace NH
open PySem L2
/-- the rules in one -/
theorem vA : type_of% (And.intro (And.intro (And.intro (And.intro (And.intro (And.intro (And.intro @v_wOpt_some @v_wOpt_none) (And.intro @v_wIf_true (And.intro @v_wIf_false @v_W_bindE))) (And.intro (And.intro @v_W_okE (And.intro @v_W_ok1 @v_W_badE)) (And.intro @v_kSeq_nx (And.intro @v_kSeq_rt @v_kSeq_nil)))) (And.intro (And.intro (And.intro @v_wB_nil (And.intro @v_wB_cons @v_wS_tw)) (And.intro @v_wS_tn (And.intro @v_wS_tt @v_wS_ti))) (And.intro (And.intro @v_wS_par (And.intro @v_wS_ex @v_wS_ret)) (And.intro @v_wBr_true (And.intro @v_wBr_false @v_wS_ite))))) (And.intro (And.intro (And.intro (And.intro @v_wBo_on @v_wBo_and) (And.intro @v_wBo_or (And.intro @v_wS_fr @v_wS_whl))) (And.intro (And.intro @v_wE_non (And.intro @v_wE_bl @v_wE_int)) (And.intro @v_wE_str (And.intro @v_wE_glo @v_wVar_val)))) (And.intro (And.intro (And.intro @v_wVar_own (And.intro @v_wE_var @v_wE_tup)) (And.intro @v_wE_lst (And.intro @v_wE_dnewT @v_wE_dnewF))) (And.intro (And.intro @v_W_liftR (And.intro @v_W_liftO @v_wE_disp)) (And.intro @v_W_bin (And.intro @v_W_cmp @v_W_idx)))))) (And.intro (And.intro (And.intro (And.intro (And.intro @v_W_slc @v_W_blt) (And.intro @v_W_asInt (And.intro @v_W_asBl @v_wE_bin))) (And.intro (And.intro @v_wE_neg (And.intro @v_wE_cmp @v_wE_cmp2)) (And.intro @v_wE_boo (And.intro @v_wB_last @v_wB_more)))) (And.intro (And.intro (And.intro @v_wE_not (And.intro @v_wE_idx @v_wE_slc)) (And.intro @v_wO_no (And.intro @v_wQ_no @v_wE_fz))) (And.intro (And.intro @v_wE_stt (And.intro @v_wE_call @v_wE_blt)) (And.intro @v_wE_mth (And.intro @v_W_kindM @v_wD_nil))))) (And.intro (And.intro (And.intro (And.intro @v_wD_cons (And.intro @v_wA_nil @v_wA_cons)) (And.intro @v_wC_nil (And.intro @v_wC_mv @v_wC_mw))) (And.intro (And.intro @v_W_newO (And.intro @v_wI_rng @v_wI_seq)) (And.intro @v_wI_enum (And.intro @v_wI_zip @v_wI_str)))) (And.intro (And.intro (And.intro @v_wG_tn (And.intro @v_wG_ttv @v_wG_ttp)) (And.intro @v_wT_tn (And.intro @v_wT_tt @v_wT_ti))) (And.intro (And.intro @v_wTs_nil (And.intro @v_wTs_cons @v_W_setSlot)) (And.intro @v_W_setW_new (And.intro @v_W_setW_val @v_wWs_nil))))))) (And.intro (And.intro (And.intro (And.intro (And.intro (And.intro @v_wWs_cons @v_W_frz_val) (And.intro @v_W_frz_new (And.intro @v_wFrz_own @v_wFrz_val))) (And.intro (And.intro @v_W_frz_slot (And.intro @v_W_alloc @v_W_takeOwn)) (And.intro @v_W_setPl (And.intro @v_W_setItem @v_wCO_ok)))) (And.intro (And.intro (And.intro @v_W_doCall (And.intro @v_wE_lc @v_wC_non)) (And.intro @v_wO_non (And.intro @v_wQ_non @v_wC_bl))) (And.intro (And.intro @v_wO_bl (And.intro @v_wQ_bl @v_wC_int)) (And.intro @v_wO_int (And.intro @v_wQ_int @v_wC_str))))) (And.intro (And.intro (And.intro (And.intro @v_wO_str @v_wQ_str) (And.intro @v_wC_var (And.intro @v_wO_var @v_wQ_var))) (And.intro (And.intro @v_wC_glo (And.intro @v_wO_glo @v_wQ_glo)) (And.intro @v_wC_tup (And.intro @v_wO_tup @v_wQ_tup)))) (And.intro (And.intro (And.intro @v_wC_lst (And.intro @v_wO_lst @v_wQ_lst)) (And.intro @v_wC_dnew (And.intro @v_wO_dnew @v_wQ_dnew))) (And.intro (And.intro @v_wC_disp (And.intro @v_wO_disp @v_wQ_disp)) (And.intro @v_wC_bin (And.intro @v_wO_bin @v_wQ_bin)))))) (And.intro (And.intro (And.intro (And.intro (And.intro @v_wC_neg @v_wO_neg) (And.intro @v_wQ_neg (And.intro @v_wC_cmp @v_wO_cmp))) (And.intro (And.intro @v_wQ_cmp (And.intro @v_wC_cmp2 @v_wO_cmp2)) (And.intro @v_wQ_cmp2 (And.intro @v_wC_boo @v_wO_boo)))) (And.intro (And.intro (And.intro @v_wQ_boo (And.intro @v_wC_not @v_wO_not)) (And.intro @v_wQ_not (And.intro @v_wC_idx @v_wO_idx))) (And.intro (And.intro @v_wQ_idx (And.intro @v_wC_slc @v_wO_slc)) (And.intro @v_wQ_slc (And.intro @v_wC_lc @v_wO_lc))))) (And.intro (And.intro (And.intro (And.intro @v_wQ_lc (And.intro @v_wC_fz @v_wO_fz)) (And.intro @v_wQ_fz (And.intro @v_wC_stt @v_wO_stt))) (And.intro (And.intro @v_wQ_stt (And.intro @v_wC_call @v_wO_call)) (And.intro @v_wQ_call (And.intro @v_wC_blt @v_wO_blt)))) (And.intro (And.intro (And.intro @v_wQ_blt (And.intro @v_wC_mth @v_wO_mth)) (And.intro @v_wQ_mth (And.intro @v_W_append @v_W_extend))) (And.intro (And.intro @v_W_pop0 (And.intro @v_W_pop1 @v_W_clear)) (And.intro @v_W_index (And.intro @v_W_get @v_W_count)))))))) := (And.intro (And.intro (And.intro (And.intro (And.intro (And.intro (And.intro @v_wOpt_some @v_wOpt_none) (And.intro @v_wIf_true (And.intro @v_wIf_false @v_W_bindE))) (And.intro (And.intro @v_W_okE (And.intro @v_W_ok1 @v_W_badE)) (And.intro @v_kSeq_nx (And.intro @v_kSeq_rt @v_kSeq_nil)))) (And.intro (And.intro (And.intro @v_wB_nil (And.intro @v_wB_cons @v_wS_tw)) (And.intro @v_wS_tn (And.intro @v_wS_tt @v_wS_ti))) (And.intro (And.intro @v_wS_par (And.intro @v_wS_ex @v_wS_ret)) (And.intro @v_wBr_true (And.intro @v_wBr_false @v_wS_ite))))) (And.intro (And.intro (And.intro (And.intro @v_wBo_on @v_wBo_and) (And.intro @v_wBo_or (And.intro @v_wS_fr @v_wS_whl))) (And.intro (And.intro @v_wE_non (And.intro @v_wE_bl @v_wE_int)) (And.intro @v_wE_str (And.intro @v_wE_glo @v_wVar_val)))) (And.intro (And.intro (And.intro @v_wVar_own (And.intro @v_wE_var @v_wE_tup)) (And.intro @v_wE_lst (And.intro @v_wE_dnewT @v_wE_dnewF))) (And.intro (And.intro @v_W_liftR (And.intro @v_W_liftO @v_wE_disp)) (And.intro @v_W_bin (And.intro @v_W_cmp @v_W_idx)))))) (And.intro (And.intro (And.intro (And.intro (And.intro @v_W_slc @v_W_blt) (And.intro @v_W_asInt (And.intro @v_W_asBl @v_wE_bin))) (And.intro (And.intro @v_wE_neg (And.intro @v_wE_cmp @v_wE_cmp2)) (And.intro @v_wE_boo (And.intro @v_wB_last @v_wB_more)))) (And.intro (And.intro (And.intro @v_wE_not (And.intro @v_wE_idx @v_wE_slc)) (And.intro @v_wO_no (And.intro @v_wQ_no @v_wE_fz))) (And.intro (And.intro @v_wE_stt (And.intro @v_wE_call @v_wE_blt)) (And.intro @v_wE_mth (And.intro @v_W_kindM @v_wD_nil))))) (And.intro (And.intro (And.intro (And.intro @v_wD_cons (And.intro @v_wA_nil @v_wA_cons)) (And.intro @v_wC_nil (And.intro @v_wC_mv @v_wC_mw))) (And.intro (And.intro @v_W_newO (And.intro @v_wI_rng @v_wI_seq)) (And.intro @v_wI_enum (And.intro @v_wI_zip @v_wI_str)))) (And.intro (And.intro (And.intro @v_wG_tn (And.intro @v_wG_ttv @v_wG_ttp)) (And.intro @v_wT_tn (And.intro @v_wT_tt @v_wT_ti))) (And.intro (And.intro @v_wTs_nil (And.intro @v_wTs_cons @v_W_setSlot)) (And.intro @v_W_setW_new (And.intro @v_W_setW_val @v_wWs_nil))))))) (And.intro (And.intro (And.intro (And.intro (And.intro (And.intro @v_wWs_cons @v_W_frz_val) (And.intro @v_W_frz_new (And.intro @v_wFrz_own @v_wFrz_val))) (And.intro (And.intro @v_W_frz_slot (And.intro @v_W_alloc @v_W_takeOwn)) (And.intro @v_W_setPl (And.intro @v_W_setItem @v_wCO_ok)))) (And.intro (And.intro (And.intro @v_W_doCall (And.intro @v_wE_lc @v_wC_non)) (And.intro @v_wO_non (And.intro @v_wQ_non @v_wC_bl))) (And.intro (And.intro @v_wO_bl (And.intro @v_wQ_bl @v_wC_int)) (And.intro @v_wO_int (And.intro @v_wQ_int @v_wC_str))))) (And.intro (And.intro (And.intro (And.intro @v_wO_str @v_wQ_str) (And.intro @v_wC_var (And.intro @v_wO_var @v_wQ_var))) (And.intro (And.intro @v_wC_glo (And.intro @v_wO_glo @v_wQ_glo)) (And.intro @v_wC_tup (And.intro @v_wO_tup @v_wQ_tup)))) (And.intro (And.intro (And.intro @v_wC_lst (And.intro @v_wO_lst @v_wQ_lst)) (And.intro @v_wC_dnew (And.intro @v_wO_dnew @v_wQ_dnew))) (And.intro (And.intro @v_wC_disp (And.intro @v_wO_disp @v_wQ_disp)) (And.intro @v_wC_bin (And.intro @v_wO_bin @v_wQ_bin)))))) (And.intro (And.intro (And.intro (And.intro (And.intro @v_wC_neg @v_wO_neg) (And.intro @v_wQ_neg (And.intro @v_wC_cmp @v_wO_cmp))) (And.intro (And.intro @v_wQ_cmp (And.intro @v_wC_cmp2 @v_wO_cmp2)) (And.intro @v_wQ_cmp2 (And.intro @v_wC_boo @v_wO_boo)))) (And.intro (And.intro (And.intro @v_wQ_boo (And.intro @v_wC_not @v_wO_not)) (And.intro @v_wQ_not (And.intro @v_wC_idx @v_wO_idx))) (And.intro (And.intro @v_wQ_idx (And.intro @v_wC_slc @v_wO_slc)) (And.intro @v_wQ_slc (And.intro @v_wC_lc @v_wO_lc))))) (And.intro (And.intro (And.intro (And.intro @v_wQ_lc (And.intro @v_wC_fz @v_wO_fz)) (And.intro @v_wQ_fz (And.intro @v_wC_stt @v_wO_stt))) (And.intro (And.intro @v_wQ_stt (And.intro @v_wC_call @v_wO_call)) (And.intro @v_wQ_call (And.intro @v_wC_blt @v_wO_blt)))) (And.intro (And.intro (And.intro @v_wQ_blt (And.intro @v_wC_mth @v_wO_mth)) (And.intro @v_wQ_mth (And.intro @v_W_append @v_W_extend))) (And.intro (And.intro @v_W_pop0 (And.intro @v_W_pop1 @v_W_clear)) (And.intro @v_W_index (And.intro @v_W_get @v_W_count))))))))
theorem uA : type_of% (And.intro (And.intro (And.intro (And.intro (And.intro (And.intro (And.intro @ctOf_non @ctOf_bl) (And.intro @ctOf_int (And.intro @ctOf_str @ctOf_tup))) (And.intro (And.intro @ctOf_klst @ctOf_lst) (And.intro @derefSl_own (And.intro @derefSl_val @deref_val)))) (And.intro (And.intro (And.intro @deref_new @deref_slot) (And.intro @derefs_nil (And.intro @derefs_cons @lk0))) (And.intro (And.intro @lkS @bin_add) (And.intro @bin_sub (And.intro @bin_mul @bin_mod))))) (And.intro (And.intro (And.intro (And.intro @bin_fdiv @bin_catT) (And.intro @bin_catL (And.intro @bin_rep @cmp_lt))) (And.intro (And.intro @cmp_le @cmp_gt) (And.intro @cmp_ge (And.intro @cmp_eqI @cmp_neI)))) (And.intro (And.intro (And.intro @cmp_eqB @cmp_neB) (And.intro @isn_bl (And.intro @notn_bl @mthT_count))) (And.intro (And.intro @mthT_countT @ask_count) (And.intro @isn_non (And.intro @isn_tup @isn_int)))))) (And.intro (And.intro (And.intro (And.intro (And.intro @notn_non @notn_tup) (And.intro @notn_int (And.intro @cast_add @cast_addL))) (And.intro (And.intro @cast_addR @cast_mul) (And.intro @cast_mulR (And.intro @cast_mod @cast_modL)))) (And.intro (And.intro (And.intro @cast_div @cast_divL) (And.intro @cast_sub (And.intro @cast_subL @cast_lt))) (And.intro (And.intro @cast_le @cast_eq) (And.intro @cast_ltL (And.intro @cast_ltR @cast_leL))))) (And.intro (And.intro (And.intro (And.intro @cast_leR @cast_eqL) (And.intro @atI_nat (And.intro @atI_lit @ixN_nat))) (And.intro (And.intro @ixN_lit @idx_lst) (And.intro @idx_tup (And.intro @idx_klst @idx_dk)))) (And.intro (And.intro (And.intro @idx_dt @keyOf_int) (And.intro @keyOf_str (And.intro @tkeyOf_two @len_lst))) (And.intro (And.intro @len_tup @len_klst) (And.intro @len_dk (And.intro @slc_lst @slc_tup))))))) (And.intro (And.intro (And.intro (And.intro (And.intro (And.intro @slc_klst @cut_hi) (And.intro @cut_hiL (And.intro @cut_lo @intCt_int))) (And.intro (And.intro @blt_1 @blt_2) (And.intro @b_len (And.intro @b_tupL @b_tupT)))) (And.intro (And.intro (And.intro @b_lstL @b_lstT) (And.intro @b_intI (And.intro @b_intB @b_maxN))) (And.intro (And.intro @b_minN @b_maxL) (And.intro @b_minL (And.intro @F_len @F_get))))) (And.intro (And.intro (And.intro (And.intro @F_mapv @F_enum) (And.intro @F_zip (And.intro @F_rep @F_set))) (And.intro (And.intro @rng_1 @rng_1L) (And.intro @rng_2 (And.intro @rng_2L @b_lrange)))) (And.intro (And.intro (And.intro @b_trange @items_tup) (And.intro @items_lst (And.intro @items_klst @both_tt))) (And.intro (And.intro @both_ll @setO_lst) (And.intro @setO_dk (And.intro @setO_dt @mut_append)))))) (And.intro (And.intro (And.intro (And.intro (And.intro @mut_extend @mut_pop1) (And.intro @mthT_append (And.intro @mthT_extend @mthT_pop0))) (And.intro (And.intro @mthT_pop1 @mthT_clear) (And.intro @mthT_index (And.intro @mthT_indexT @mthT_getK)))) (And.intro (And.intro (And.intro @mthT_getT @ask_index) (And.intro @ask_get (And.intro @get_dk @get_dt))) (And.intro (And.intro @backO_nil @backO_cons) (And.intro @rOf_val (And.intro @rOf_new @endR_val))))) (And.intro (And.intro (And.intro (And.intro @endR_new @endSl_own) (And.intro @endSl_val (And.intro @endR_s0 @endR_s1))) (And.intro (And.intro @outs_nil @outs_cons) (And.intro @wipe_nil (And.intro @wipe_cons @back_nil)))) (And.intro (And.intro (And.intro @back_cons @ownO_own) (And.intro @slPut_own (And.intro @slPut_ref @putPl_slot))) (And.intro (And.intro @putPl_ref @objO_o) (And.intro @blR_val (And.intro @kTurn_nx @kTurn_rt)))))))) := (And.intro (And.intro (And.intro (And.intro (And.intro (And.intro (And.intro @ctOf_non @ctOf_bl) (And.intro @ctOf_int (And.intro @ctOf_str @ctOf_tup))) (And.intro (And.intro @ctOf_klst @ctOf_lst) (And.intro @derefSl_own (And.intro @derefSl_val @deref_val)))) (And.intro (And.intro (And.intro @deref_new @deref_slot) (And.intro @derefs_nil (And.intro @derefs_cons @lk0))) (And.intro (And.intro @lkS @bin_add) (And.intro @bin_sub (And.intro @bin_mul @bin_mod))))) (And.intro (And.intro (And.intro (And.intro @bin_fdiv @bin_catT) (And.intro @bin_catL (And.intro @bin_rep @cmp_lt))) (And.intro (And.intro @cmp_le @cmp_gt) (And.intro @cmp_ge (And.intro @cmp_eqI @cmp_neI)))) (And.intro (And.intro (And.intro @cmp_eqB @cmp_neB) (And.intro @isn_bl (And.intro @notn_bl @mthT_count))) (And.intro (And.intro @mthT_countT @ask_count) (And.intro @isn_non (And.intro @isn_tup @isn_int)))))) (And.intro (And.intro (And.intro (And.intro (And.intro @notn_non @notn_tup) (And.intro @notn_int (And.intro @cast_add @cast_addL))) (And.intro (And.intro @cast_addR @cast_mul) (And.intro @cast_mulR (And.intro @cast_mod @cast_modL)))) (And.intro (And.intro (And.intro @cast_div @cast_divL) (And.intro @cast_sub (And.intro @cast_subL @cast_lt))) (And.intro (And.intro @cast_le @cast_eq) (And.intro @cast_ltL (And.intro @cast_ltR @cast_leL))))) (And.intro (And.intro (And.intro (And.intro @cast_leR @cast_eqL) (And.intro @atI_nat (And.intro @atI_lit @ixN_nat))) (And.intro (And.intro @ixN_lit @idx_lst) (And.intro @idx_tup (And.intro @idx_klst @idx_dk)))) (And.intro (And.intro (And.intro @idx_dt @keyOf_int) (And.intro @keyOf_str (And.intro @tkeyOf_two @len_lst))) (And.intro (And.intro @len_tup @len_klst) (And.intro @len_dk (And.intro @slc_lst @slc_tup))))))) (And.intro (And.intro (And.intro (And.intro (And.intro (And.intro @slc_klst @cut_hi) (And.intro @cut_hiL (And.intro @cut_lo @intCt_int))) (And.intro (And.intro @blt_1 @blt_2) (And.intro @b_len (And.intro @b_tupL @b_tupT)))) (And.intro (And.intro (And.intro @b_lstL @b_lstT) (And.intro @b_intI (And.intro @b_intB @b_maxN))) (And.intro (And.intro @b_minN @b_maxL) (And.intro @b_minL (And.intro @F_len @F_get))))) (And.intro (And.intro (And.intro (And.intro @F_mapv @F_enum) (And.intro @F_zip (And.intro @F_rep @F_set))) (And.intro (And.intro @rng_1 @rng_1L) (And.intro @rng_2 (And.intro @rng_2L @b_lrange)))) (And.intro (And.intro (And.intro @b_trange @items_tup) (And.intro @items_lst (And.intro @items_klst @both_tt))) (And.intro (And.intro @both_ll @setO_lst) (And.intro @setO_dk (And.intro @setO_dt @mut_append)))))) (And.intro (And.intro (And.intro (And.intro (And.intro @mut_extend @mut_pop1) (And.intro @mthT_append (And.intro @mthT_extend @mthT_pop0))) (And.intro (And.intro @mthT_pop1 @mthT_clear) (And.intro @mthT_index (And.intro @mthT_indexT @mthT_getK)))) (And.intro (And.intro (And.intro @mthT_getT @ask_index) (And.intro @ask_get (And.intro @get_dk @get_dt))) (And.intro (And.intro @backO_nil @backO_cons) (And.intro @rOf_val (And.intro @rOf_new @endR_val))))) (And.intro (And.intro (And.intro (And.intro @endR_new @endSl_own) (And.intro @endSl_val (And.intro @endR_s0 @endR_s1))) (And.intro (And.intro @outs_nil @outs_cons) (And.intro @wipe_nil (And.intro @wipe_cons @back_nil)))) (And.intro (And.intro (And.intro @back_cons @ownO_own) (And.intro @slPut_own (And.intro @slPut_ref @putPl_slot))) (And.intro (And.intro @putPl_ref @objO_o) (And.intro @blR_val (And.intro @kTurn_nx @kTurn_rt))))))))
end NH

set_option Elab.async false
set_option linter.all false
set_option maxRecDepth 100000
set_option maxHeartbeats 1000000
set_option autoImplicit false
namespace NH.DR
open PySem L2
def c_Lbox : C := 
  (.cons (.asg (.tn 2) (.bin .mod (.bin .pow (.bin .add (.bin .mul (.int 7919) (.var 1)) (.int 11)) (.int 5)) (.int 2147483647)))
  (.cons (.ite (.cmp .lt (.var 1) (.blt .len (.cons (.var 0) .nil))) (.cons (.asg (.tn 2) (.idx (.var 0) (.var 1))) .nil) (.cons (.ite (.cmp .gt (.blt .len (.cons (.var 0) .nil)) (.int 0)) (.cons (.asg (.tn 2) (.bin .add (.var 2) (.bin .mul (.bin .mod (.idx (.var 0) (.bin .mod (.var 1) (.blt .len (.cons (.var 0) .nil)))) (.int 2147483629)) (.int 69623)))) .nil) .nil) .nil))
  (.cons (.asg (.tn 3) (.bin .add (.bin .mod (.bin .pow (.bin .add (.bin .add (.bin .mod (.var 2) (.int 2147483629)) (.bin .mul (.int 104729) (.var 1))) (.int 12)) (.int 5)) (.int 2147483647)) (.int 1)))
  (.cons (.ret (.lst (.cons (.idx (.lst (.cons (.int 0) (.cons (.var 2) .nil))) (.blt .int (.cons (.cmp .ge (.var 2) (.bin .pow (.int 10) (.int 18))) .nil))) (.cons (.var 3) .nil)))) .nil))))
def f_Lbox : Fd := ⟨2, [], 4, c_Lbox⟩
def c_Ltake : C := 
  (.cons (.ite (.cmp .gt (.idx (.var 0) (.int 0)) (.int 0)) (.cons (.asg (.tn 3) (.bin .mod (.idx (.var 0) (.int 0)) (.var 1))) (.cons (.asg (.ti (.var 0) (.int 0)) (.bin .fdiv (.idx (.var 0) (.int 0)) (.var 1))) (.cons (.ret (.var 3)) .nil))) .nil)
  (.cons (.asg (.tn 2) (.bin .mod (.bin .mul (.idx (.var 0) (.int 1)) (.int 69623)) (.int 2147483647)))
  (.cons (.asg (.ti (.var 0) (.int 1)) (.bin .add (.bin .mod (.bin .add (.bin .mul (.var 2) (.int 48271)) (.int 30103)) (.int 2147483629)) (.int 1)))
  (.cons (.ret (.bin .mod (.bin .fdiv (.bin .add (.bin .mul (.var 2) (.int 2147483647)) (.idx (.var 0) (.int 1))) (.int 8191)) (.var 1))) .nil))))
def f_Ltake : Fd := ⟨2, [0], 4, c_Ltake⟩
def c_Lalike : C := 
  (.cons (.ite (.blt .islt (.cons (.var 1) .nil)) (.cons (.ite (.boo false (.cons (.cmp .ne (.blt .istuple (.cons (.var 0) .nil)) (.blt .istuple (.cons (.var 1) .nil))) (.cons (.cmp .ne (.blt .islist (.cons (.var 0) .nil)) (.blt .islist (.cons (.var 1) .nil))) .nil))) (.cons (.ret (.bl false)) .nil) .nil) (.cons (.ret (.boo true (.cons (.cmp .eq (.blt .len (.cons (.var 0) .nil)) (.blt .len (.cons (.var 1) .nil))) (.cons (.blt .all (.cons (.lc [2, 3] (.tt (.cons (.tn 2) (.cons (.tn 3) .nil))) (.izip (.var 0) (.var 1)) .no (.call "_law_alike" (.cons (.var 2) (.cons (.var 3) .nil)))) .nil)) .nil)))) .nil)) .nil)
  (.cons (.ret (.boo true (.cons (.cmp .eq (.blt .isbool (.cons (.var 0) .nil)) (.blt .isbool (.cons (.var 1) .nil))) (.cons (.cmp .eq (.var 0) (.var 1)) .nil)))) .nil))
def f_Lalike : Fd := ⟨2, [], 4, c_Lalike⟩
def c_Lshuffled : C := 
  (.cons (.asg (.tw 2) (.blt .lrange (.cons (.var 1) .nil)))
  (.cons (.ret (.lc [3] (.tn 3) (.irng (.cons (.var 1) .nil)) .no (.mth .pop1 (.var 2) (.cons (.call "_law_take" (.cons (.mv 0) (.cons (.bin .sub (.var 1) (.var 3)) .nil))) .nil)))) .nil))
def f_Lshuffled : Fd := ⟨2, [0], 4, c_Lshuffled⟩
def c_Lties : C := 
  (.cons (.asg (.tw 3) (.bin .mul (.lst (.cons (.int 0) .nil)) (.var 1)))
  (.cons (.asg (.tw 4) (.lst .nil))
  (.cons (.fr (.tn 5) (.irng (.cons (.int 1) (.cons (.var 1) .nil))) (.cons (.asg (.tn 7) (.lc [8] (.tn 8) (.irng (.cons (.var 5) .nil)) (.cmp .lt (.idx (.var 3) (.var 8)) (.var 2)) (.var 8))) (.cons (.asg (.tn 8) (.idx (.var 7) (.call "_law_take" (.cons (.mv 0) (.cons (.blt .len (.cons (.var 7) .nil)) .nil))))) (.cons (.ex (.mth .append (.var 4) (.cons (.tup (.cons (.tup (.cons (.var 5) (.cons (.int 0) .nil))) (.cons (.tup (.cons (.var 8) (.cons (.idx (.var 3) (.var 8)) .nil))) .nil))) .nil))) (.cons (.asg (.tt (.cons (.ti (.var 3) (.var 5)) (.cons (.ti (.var 3) (.var 8)) .nil))) (.tup (.cons (.int 1) (.cons (.bin .add (.idx (.var 3) (.var 8)) (.int 1)) .nil)))) .nil)))))
  (.cons (.fr (.tn 6) (.irng (.cons (.call "_law_take" (.cons (.mv 0) (.cons (.int 4) .nil))) .nil)) (.cons (.asg (.tn 7) (.lc [8] (.tn 8) (.irng (.cons (.var 1) .nil)) (.cmp .lt (.idx (.var 3) (.var 8)) (.var 2)) (.var 8))) (.cons (.ite (.cmp .gt (.blt .len (.cons (.var 7) .nil)) (.int 0)) (.cons (.asg (.tn 9) (.call "_law_take" (.cons (.mv 0) (.cons (.int 3) .nil)))) (.cons (.par (.cons (.tw 8) (.cons (.tw 5) .nil)) (.cons (.fz (.idx (.var 7) (.call "_law_take" (.cons (.mv 0) (.cons (.blt .len (.cons (.var 7) .nil)) .nil))))) (.cons (.fz (.idx (.var 7) (.call "_law_take" (.cons (.mv 0) (.cons (.blt .len (.cons (.var 7) .nil)) .nil))))) .nil))) (.cons (.ite (.boo false (.cons (.cmp .eq (.var 9) (.int 0)) (.cons (.boo true (.cons (.cmp .eq (.var 8) (.var 5)) (.cons (.cmp .eq (.bin .add (.idx (.var 3) (.var 8)) (.int 1)) (.var 2)) .nil))) .nil))) (.cons (.asg (.tn 5) (.var 8)) (.cons (.ex (.mth .append (.var 4) (.cons (.tup (.cons (.tup (.cons (.var 8) (.cons (.idx (.var 3) (.var 8)) .nil))) (.cons (.tup (.cons (.var 8) (.cons (.idx (.var 3) (.var 8)) .nil))) .nil))) .nil))) .nil)) (.cons (.ite (.cmp .eq (.var 8) (.var 5)) (.cons (.ex (.mth .append (.var 4) (.cons (.tup (.cons (.tup (.cons (.var 8) (.cons (.idx (.var 3) (.var 8)) .nil))) (.cons (.tup (.cons (.var 8) (.cons (.bin .add (.idx (.var 3) (.var 8)) (.int 1)) .nil))) .nil))) .nil))) (.cons (.asg (.ti (.var 3) (.var 8)) (.bin .add (.idx (.var 3) (.var 8)) (.int 1))) .nil)) (.cons (.ex (.mth .append (.var 4) (.cons (.tup (.cons (.tup (.cons (.var 8) (.cons (.idx (.var 3) (.var 8)) .nil))) (.cons (.tup (.cons (.var 5) (.cons (.idx (.var 3) (.var 5)) .nil))) .nil))) .nil))) (.cons (.asg (.ti (.var 3) (.var 5)) (.bin .add (.idx (.var 3) (.var 5)) (.int 1))) .nil))) .nil)) (.cons (.asg (.ti (.var 3) (.var 8)) (.bin .add (.idx (.var 3) (.var 8)) (.int 1))) .nil)))) .nil) .nil)))
  (.cons (.ret (.tup (.cons (.var 4) (.cons (.var 3) .nil)))) .nil)))))
def f_Lties : Fd := ⟨3, [0], 10, c_Lties⟩
def c_Lmarks : C := 
  (.cons (.asg (.tn 2) (.call "_law_take" (.cons (.mv 0) (.cons (.int 4) .nil))))
  (.cons (.asg (.tn 3) (.tup (.cons (.call "_law_take" (.cons (.mv 0) (.cons (.int 10) .nil))) (.cons (.call "_law_take" (.cons (.mv 0) (.cons (.int 10) .nil))) .nil))))
  (.cons (.ite (.cmp .lt (.var 2) (.int 2)) (.cons (.ret (.bin .mul (.lst (.cons (.idx (.var 3) (.int 0)) .nil)) (.var 1))) .nil) .nil)
  (.cons (.ret (.lc [4] (.tn 4) (.irng (.cons (.var 1) .nil)) .no (.idx (.lst (.cons (.idx (.var 3) (.call "_law_take" (.cons (.mv 0) (.cons (.int 2) .nil)))) (.cons (.call "_law_take" (.cons (.mv 0) (.cons (.int 10) .nil))) .nil))) (.bin .sub (.var 2) (.int 2))))) .nil))))
def f_Lmarks : Fd := ⟨2, [0], 5, c_Lmarks⟩
def c_Lplain_web : C := 
  (.cons (.asg (.tn 3) (.bin .add (.int 1) (.call "_law_take" (.cons (.mv 0) (.cons (.var 1) .nil)))))
  (.cons (.asg (.tn 4) (.call "_law_marks" (.cons (.mv 0) (.cons (.var 3) .nil))))
  (.cons (.asg (.tt (.cons (.tn 7) (.cons (.tn 8) .nil))) (.call "_law_ties" (.cons (.mv 0) (.cons (.var 3) (.cons (.var 2) .nil)))))
  (.cons (.asg (.tn 5) (.lc [9] (.tn 9) (.iseq (.var 8)) .no (.call "_law_shuffled" (.cons (.mv 0) (.cons (.var 9) .nil)))))
  (.cons (.asg (.tn 6) (.lc [9] (.tn 9) (.iseq (.var 8)) .no (.stt (.bin .mul (.lst (.cons (.tup (.cons (.int 0) (.cons (.int 0) .nil))) .nil)) (.var 9)))))
  (.cons (.fr (.tt (.cons (.tt (.cons (.tn 10) (.cons (.tn 11) .nil))) (.cons (.tt (.cons (.tn 12) (.cons (.tn 13) .nil))) .nil))) (.iseq (.var 7)) (.cons (.asg (.ti (.idx (.var 6) (.var 10)) (.idx (.idx (.var 5) (.var 10)) (.var 11))) (.tup (.cons (.var 12) (.cons (.idx (.idx (.var 5) (.var 12)) (.var 13)) .nil)))) (.cons (.asg (.ti (.idx (.var 6) (.var 12)) (.idx (.idx (.var 5) (.var 12)) (.var 13))) (.tup (.cons (.var 10) (.cons (.idx (.idx (.var 5) (.var 10)) (.var 11)) .nil)))) .nil)))
  (.cons (.ret (.blt .tuple (.cons (.lc [14, 15] (.tt (.cons (.tn 14) (.cons (.tn 15) .nil))) (.izip (.var 4) (.var 6)) .no (.tup (.cons (.var 14) (.cons (.blt .tuple (.cons (.var 15) .nil)) .nil)))) .nil))) .nil)))))))
def f_Lplain_web : Fd := ⟨3, [0], 16, c_Lplain_web⟩
def c_Lrenamed : C := 
  (.cons (.asg (.tw 2) (.bin .mul (.lst (.cons .non .nil)) (.blt .len (.cons (.var 0) .nil))))
  (.cons (.fr (.tt (.cons (.tn 3) (.cons (.tt (.cons (.tn 4) (.cons (.tn 5) .nil))) .nil))) (.ienum (.var 0)) (.cons (.asg (.ti (.var 2) (.idx (.var 1) (.var 3))) (.tup (.cons (.var 4) (.cons (.blt .tuple (.cons (.lc [6, 7] (.tt (.cons (.tn 6) (.cons (.tn 7) .nil))) (.iseq (.var 5)) .no (.tup (.cons (.idx (.var 1) (.var 6)) (.cons (.var 7) .nil)))) .nil)) .nil)))) .nil))
  (.cons (.ret (.blt .tuple (.cons (.var 2) .nil))) .nil)))
def f_Lrenamed : Fd := ⟨2, [], 8, c_Lrenamed⟩
def c_Lturnings : C := 
  (.cons (.asg (.tw 3) (.dnew true))
  (.cons (.fr (.tt (.cons (.tn 4) (.cons (.tt (.cons (.tn 5) (.cons (.tn 6) .nil))) .nil))) (.ienum (.var 1)) (.cons (.fr (.tt (.cons (.tn 7) (.cons (.tt (.cons (.tn 8) (.cons (.tn 9) .nil))) .nil))) (.ienum (.var 6)) (.cons (.ite (.cmp .eq (.tup (.cons (.var 8) (.cons (.var 9) .nil))) (.tup (.cons (.var 4) (.cons (.var 7) .nil)))) (.cons (.asg (.tw 10) (.blt .lrange (.cons (.var 2) .nil))) (.cons (.fr (.tn 11) (.irng (.cons (.bin .fdiv (.var 2) (.int 2)) .nil)) (.cons (.ite (.cmp .gt (.call "_law_take" (.cons (.mv 0) (.cons (.int 3) .nil))) (.int 0)) (.cons (.asg (.tt (.cons (.ti (.var 10) (.bin .mul (.int 2) (.var 11))) (.cons (.ti (.var 10) (.bin .add (.bin .mul (.int 2) (.var 11)) (.int 1))) .nil))) (.tup (.cons (.bin .add (.bin .mul (.int 2) (.var 11)) (.int 1)) (.cons (.bin .mul (.int 2) (.var 11)) .nil)))) .nil) .nil) .nil)) (.cons (.asg (.tn 12) (.call "_law_take" (.cons (.mv 0) (.cons (.var 2) .nil)))) (.cons (.asg (.ti (.var 3) (.tup (.cons (.var 4) (.cons (.var 7) .nil)))) (.lc [13] (.tn 13) (.irng (.cons (.var 2) .nil)) .no (.bin .mod (.bin .sub (.idx (.var 10) (.bin .mod (.bin .add (.var 13) (.var 12)) (.var 2))) (.var 12)) (.var 2)))) .nil)))) (.cons (.ite (.cmp .lt (.tup (.cons (.var 4) (.cons (.var 7) .nil))) (.tup (.cons (.var 8) (.cons (.var 9) .nil)))) (.cons (.asg (.tw 10) (.call "_law_shuffled" (.cons (.mv 0) (.cons (.var 2) .nil)))) (.cons (.asg (.ti (.var 3) (.tup (.cons (.var 4) (.cons (.var 7) .nil)))) (.var 10)) (.cons (.asg (.ti (.var 3) (.tup (.cons (.var 8) (.cons (.var 9) .nil)))) (.lc [13] (.tn 13) (.irng (.cons (.var 2) .nil)) .no (.mth .index (.var 10) (.cons (.var 13) .nil)))) .nil))) .nil) .nil)) .nil)) .nil))
  (.cons (.ret (.var 3)) .nil)))
def f_Lturnings : Fd := ⟨3, [0], 14, c_Lturnings⟩
def c_Lcover : C := 
  (.cons (.asg (.tw 3) (.call "_law_turnings" (.cons (.mv 0) (.cons (.var 1) (.cons (.var 2) .nil)))))
  (.cons (.asg (.tw 4) (.lst (.cons (.tup (.cons (.int 0) (.cons (.int 0) .nil))) .nil)))
  (.cons (.asg (.tn 5) (.int 0))
  (.cons (.whl 100000 (.cmp .lt (.var 5) (.blt .len (.cons (.var 4) .nil))) (.cons (.asg (.tt (.cons (.tn 9) (.cons (.tn 10) .nil))) (.idx (.var 4) (.var 5))) (.cons (.fr (.tt (.cons (.tn 13) (.cons (.tt (.cons (.tn 14) (.cons (.tn 15) .nil))) .nil))) (.ienum (.idx (.idx (.var 1) (.var 9)) (.int 1))) (.cons (.ite (.cmp .notin (.tup (.cons (.var 14) (.cons (.idx (.idx (.var 3) (.tup (.cons (.var 9) (.cons (.var 13) .nil)))) (.var 10)) .nil))) (.var 4)) (.cons (.ex (.mth .append (.var 4) (.cons (.tup (.cons (.var 14) (.cons (.idx (.idx (.var 3) (.tup (.cons (.var 9) (.cons (.var 13) .nil)))) (.var 10)) .nil))) .nil))) .nil) .nil) .nil)) (.cons (.asg (.tn 5) (.bin .add (.var 5) (.int 1))) .nil))))
  (.cons (.asg (.tw 6) (.lst .nil))
  (.cons (.fr (.tt (.cons (.tn 9) (.cons (.tn 10) .nil))) (.iseq (.var 4)) (.cons (.asg (.tn 11) (.lc [13, 14, 15] (.tt (.cons (.tn 13) (.cons (.tt (.cons (.tn 14) (.cons (.tn 15) .nil))) .nil))) (.ienum (.idx (.idx (.var 1) (.var 9)) (.int 1))) .no (.tup (.cons (.mth .index (.var 4) (.cons (.tup (.cons (.var 14) (.cons (.idx (.idx (.var 3) (.tup (.cons (.var 9) (.cons (.var 13) .nil)))) (.var 10)) .nil))) .nil)) (.cons (.var 15) .nil))))) (.cons (.ex (.mth .append (.var 6) (.cons (.tup (.cons (.idx (.idx (.var 1) (.var 9)) (.int 0)) (.cons (.blt .tuple (.cons (.var 11) .nil)) .nil))) .nil))) .nil)))
  (.cons (.asg (.tn 7) (.call "_law_shuffled" (.cons (.mv 0) (.cons (.blt .len (.cons (.var 4) .nil)) .nil))))
  (.cons (.asg (.tw 8) (.bin .mul (.lst (.cons (.int 0) .nil)) (.blt .len (.cons (.var 4) .nil))))
  (.cons (.fr (.tt (.cons (.tn 12) (.cons (.tt (.cons (.tn 9) (.cons (.tn 10) .nil))) .nil))) (.ienum (.var 4)) (.cons (.asg (.ti (.var 8) (.idx (.var 7) (.var 12))) (.var 9)) .nil))
  (.cons (.ret (.tup (.cons (.call "_law_renamed" (.cons (.blt .tuple (.cons (.var 6) .nil)) (.cons (.var 7) .nil))) (.cons (.blt .tuple (.cons (.var 8) .nil)) .nil)))) .nil))))))))))
def f_Lcover : Fd := ⟨3, [0], 16, c_Lcover⟩
def c_Lweb : C := 
  (.cons (.ite (.boo false (.cons (.cmp .eq (.call "_law_take" (.cons (.mv 0) (.cons (.int 2) .nil))) (.int 0)) (.cons (.cmp .lt (.var 1) (.int 2)) .nil))) (.cons (.ret (.call "_law_plain_web" (.cons (.mv 0) (.cons (.var 1) (.cons (.var 2) .nil))))) .nil) .nil)
  (.cons (.asg (.tn 3) (.bin .add (.int 2) (.call "_law_take" (.cons (.mv 0) (.cons (.blt .min2 (.cons (.int 3) (.cons (.bin .sub (.var 1) (.int 1)) .nil))) .nil)))))
  (.cons (.asg (.tn 4) (.call "_law_plain_web" (.cons (.mv 0) (.cons (.blt .max2 (.cons (.int 1) (.cons (.bin .fdiv (.var 1) (.var 3)) .nil))) (.cons (.var 2) .nil)))))
  (.cons (.ret (.idx (.call "_law_cover" (.cons (.mv 0) (.cons (.var 4) (.cons (.var 3) .nil)))) (.int 0))) .nil))))
def f_Lweb : Fd := ⟨3, [0], 5, c_Lweb⟩
end NH.DR

set_option Elab.async false
set_option linter.all false
set_option maxRecDepth 100000
set_option maxHeartbeats 1000000
set_option autoImplicit false
namespace NH.DR
open PySem L2
theorem map_eraseIdx' {α β : Type} (f : α → β) : ∀ (xs : List α) (k : Nat), (xs.map f).eraseIdx k = (xs.eraseIdx k).map f
  | [], k => by simp
  | x :: xs, 0 => by simp
  | x :: xs, k + 1 => by simp [map_eraseIdx' f xs k]
theorem cons_eraseIdx_perm {α : Type} : ∀ (xs : List α) (j : Nat) (h : j < xs.length), (xs[j] :: xs.eraseIdx j).Perm xs
  | x :: xs, 0, _ => by simp
  | x :: xs, j + 1, h => by
    simp only [List.getElem_cons_succ, List.eraseIdx_cons_succ]
    exact (List.Perm.swap _ _ _).trans ((cons_eraseIdx_perm xs j (by simpa using h)).cons x)
def nD (k : Nat) : D := .int (k : Int)
theorem nD_eq {k : Nat} : nD k = .int (k : Int) := rfl
theorem map_get {α : Type} {xs : List α} {f : α → D} {k : Nat} {d : α} (h : k < xs.length) : (xs.map f)[k]? = some (f (xs.getD k d)) := by
  simp [h]
theorem getD_mem {α : Type} {xs : List α} {k : Nat} {d : α} (h : k < xs.length) : xs.getD k d ∈ xs := by
  simp [h]
theorem mut_popN {xs : List Nat} {k : Nat} (h : k < xs.length) (hz : xs.length ≤ 16777216) : mutO .pop1 (.lst (xs.map nD)) [.int (k : Int)] = some (.lst ((xs.eraseIdx k).map nD), nD (xs.getD k 0)) := by
  rw [mut_pop1 (d := nD (xs.getD k 0)) (by simpa using h) (by simpa using hz) (map_get h)]
  congr 3
  rw [map_eraseIdx']
def BoxOk (o : O) : Prop := ∃ a b : Int, o = .lst [.int a, .int b]
/-- what is asked of the defs that draw -/
def Take (cal : Cal) : Prop := ∀ (o : O) (w : Nat) (st : List O), BoxOk o → 0 < w → w < 1073741824 →
    vCO (cal "_law_take" [.own o, .val (.int w)] st) fun r os st' => st' = st ∧ ∃ (k : Nat) (o' : O), k < w ∧ BoxOk o' ∧ r = .val (.int k) ∧ os = [o']
theorem Take.use {cal : Cal} (h : Take cal) {o : O} {w : Nat} {st : List O} {K : Rt → List O → List O → Prop} (ho : BoxOk o) (hw : 0 < w) (hw2 : w < 1073741824)
    (q : ∀ (k : Nat) (o' : O), k < w → BoxOk o' → K (.val (.int k)) [o'] st) : vCO (cal "_law_take" [.own o, .val (.int w)] st) K := by
  refine v_wCO_mono (h o w st ho hw hw2) ?_
  rintro _ _ _ ⟨rfl, k, o', h1, h2, rfl, rfl⟩
  exact q k o' h1 h2
theorem Take.useL {cal : Cal} (h : Take cal) {o : O} {w : Nat} {st : List O} {K : Rt → List O → List O → Prop} (ho : BoxOk o) (hw : 0 < (OfNat.ofNat w : Nat)) (hw2 : (OfNat.ofNat w : Nat) < 1073741824)
    (q : ∀ (k : Nat) (o' : O), k < (OfNat.ofNat w : Nat) → BoxOk o' → K (.val (.int k)) [o'] st) : vCO (cal "_law_take" [.own o, .val (.int (OfNat.ofNat w))] st) K := h.use ho hw hw2 q
theorem take_run (cal : Cal) (o : O) (w : Nat) (st : List O) (ho : BoxOk o) (hw : 0 < w) (hw2 : w < 1073741824) :
    vCO (runFd cal f_Ltake [.own o, .val (.int w)] st) fun r os st' => st' = st ∧ ∃ (k : Nat) (o' : O), k < w ∧ BoxOk o' ∧ r = .val (.int k) ∧ os = [o'] := by
  obtain ⟨a, b, rfl⟩ := ho
  have mod : ∀ x : Int, ∃ k : Nat, k < w ∧ x % (w : Int) = (k : Int) := by
    intro x
    have h1 := Int.emod_nonneg x (b := (w : Int)) (by omega)
    have h2 := Int.emod_lt_of_pos x (b := (w : Int)) (by omega)
    exact ⟨(x % (w : Int)).toNat, by omega, by omega⟩
  refine v_wCO_run ⟨rfl, rfl, by decide⟩ ?_
  show V (denBl cal [0] c_Ltake) _ ⟨[.own (.lst [.int a, .int b]), .val (.int w), .no, .no], st⟩
  unfold c_Ltake
  simp (disch := first | omega | (simp only [List.length_map, F_len, List.length_append, List.length_cons, List.length_nil] <;> omega)) only [↓vA, uA, Option.bind_some, Option.map_some, Option.bind_none, Option.map_none, List.length_cons, List.length_nil, List.length_map, List.length_append, List.set_cons_zero, List.set_cons_succ, List.set_nil, List.map_cons, List.map_nil, List.cons_append, List.nil_append, List.mem_cons, List.not_mem_nil, Nat.reduceLT, Nat.reduceLeDiff, Nat.reduceAdd, Nat.reduceEqDiff, Nat.zero_add, Nat.lt_add_one, not_false_eq_true, or_false, false_or, or_self, and_true, true_and, and_self, List.getD_cons_zero, List.getD_cons_succ, Nat.succ_ne_self, reduceCtorEq, ne_eq, List.replicate_zero, List.append_nil, Int.reduceToNat, Nat.zero_lt_succ, Nat.reduceSub, Nat.one_ne_zero, Nat.zero_ne_one, f_Ltake]
  refine v_wBr_dec (fun h => ?_) (fun h => ?_)
  · obtain ⟨k, hk, e⟩ := mod a
    simp (disch := first | omega | (simp only [List.length_map, F_len, List.length_append, List.length_cons, List.length_nil] <;> omega)) only [↓vA, uA, Option.bind_some, Option.map_some, Option.bind_none, Option.map_none, List.length_cons, List.length_nil, List.length_map, List.length_append, List.set_cons_zero, List.set_cons_succ, List.set_nil, List.map_cons, List.map_nil, List.cons_append, List.nil_append, List.mem_cons, List.not_mem_nil, Nat.reduceLT, Nat.reduceLeDiff, Nat.reduceAdd, Nat.reduceEqDiff, Nat.zero_add, Nat.lt_add_one, not_false_eq_true, or_false, false_or, or_self, and_true, true_and, and_self, List.getD_cons_zero, List.getD_cons_succ, Nat.succ_ne_self, reduceCtorEq, ne_eq, List.replicate_zero, List.append_nil, Int.reduceToNat, Nat.zero_lt_succ, Nat.reduceSub, Nat.one_ne_zero, Nat.zero_ne_one]
    rw [e]
    exact ⟨k, _, hk, ⟨_, _, rfl⟩, rfl, rfl⟩
  · obtain ⟨k, hk, e⟩ := mod ((b * 69623 % 2147483647 * 2147483647 + ((b * 69623 % 2147483647 * 48271 + 30103) % 2147483629 + 1)) / 8191)
    simp (disch := first | omega | (simp only [List.length_map, F_len, List.length_append, List.length_cons, List.length_nil] <;> omega)) only [↓vA, uA, Option.bind_some, Option.map_some, Option.bind_none, Option.map_none, List.length_cons, List.length_nil, List.length_map, List.length_append, List.set_cons_zero, List.set_cons_succ, List.set_nil, List.map_cons, List.map_nil, List.cons_append, List.nil_append, List.mem_cons, List.not_mem_nil, Nat.reduceLT, Nat.reduceLeDiff, Nat.reduceAdd, Nat.reduceEqDiff, Nat.zero_add, Nat.lt_add_one, not_false_eq_true, or_false, false_or, or_self, and_true, true_and, and_self, List.getD_cons_zero, List.getD_cons_succ, Nat.succ_ne_self, reduceCtorEq, ne_eq, List.replicate_zero, List.append_nil, Int.reduceToNat, Nat.zero_lt_succ, Nat.reduceSub, Nat.one_ne_zero, Nat.zero_ne_one]
    rw [e]
    exact ⟨k, _, hk, ⟨_, _, rfl⟩, rfl, rfl⟩
/-- f goes through 0 .. n - 1 -/
structure Prm (n : Nat) (f : Nat → Nat) : Prop where
  lt : ∀ k, k < n → f k < n
  inj : ∀ i, i < n → ∀ j, j < n → f i = f j → i = j
  sur : ∀ j, j < n → ∃ i, i < n ∧ f i = j
def rowL (n : Nat) (f : Nat → Nat) : List D := F n fun k => .int (f k : Nat)
theorem prm_of_perm {n : Nat} {xs : List Nat} (h : xs.Perm (List.range n)) : ∃ f, Prm n f ∧ xs.map nD = rowL n f := by
  have hl : xs.length = n := by rw [h.length_eq]; simp
  have nd : xs.Nodup := h.nodup_iff.mpr List.nodup_range
  refine ⟨fun k => xs.getD k 0, ⟨fun k hk => ?_, fun i hi j hj e => ?_, fun j hj => ?_⟩, ?_⟩
  · have : xs.getD k 0 ∈ xs := getD_mem (by omega)
    exact List.mem_range.mp (h.mem_iff.mp this)
  · have h1 : i < xs.length := by omega
    have h2 : j < xs.length := by omega
    simp only [List.getD_eq_getElem?_getD, List.getElem?_eq_getElem h1, List.getElem?_eq_getElem h2, Option.getD_some] at e
    exact (List.getElem_inj nd).mp e
  · have : j ∈ xs := h.mem_iff.mpr (List.mem_range.mpr hj)
    obtain ⟨i, hi, e⟩ := List.getElem_of_mem this
    exact ⟨i, by omega, by simp [List.getElem?_eq_getElem hi, e]⟩
  · refine List.ext_getElem? fun j => ?_
    unfold rowL
    by_cases hj : j < n
    · rw [F_get hj, map_get (d := 0) (by omega)]; rfl
    · rw [F_get_none (by omega), List.getElem?_eq_none (by simp; omega)]
def Shuf (cal : Cal) : Prop := ∀ (o : O) (n : Nat) (st : List O), BoxOk o → n ≤ 1000000 →
    vCO (cal "_law_shuffled" [.own o, .val (.int n)] st) fun r os st' => st' = st ∧ ∃ (f : Nat → Nat) (o' : O), Prm n f ∧ BoxOk o' ∧ r = .new (.lst (rowL n f)) ∧ os = [o']
theorem Shuf.use {cal : Cal} (h : Shuf cal) {o : O} {n : Nat} {st : List O} {K : Rt → List O → List O → Prop} (ho : BoxOk o) (hw : n ≤ 1000000)
    (q : ∀ (f : Nat → Nat) (o' : O), Prm n f → BoxOk o' → K (.new (.lst (rowL n f))) [o'] st) : vCO (cal "_law_shuffled" [.own o, .val (.int n)] st) K := by
  refine v_wCO_mono (h o n st ho hw) ?_
  rintro _ _ _ ⟨rfl, k, o', h1, h2, rfl, rfl⟩
  exact q k o' h1 h2
theorem shuf_run {cal : Cal} (hT : Take cal) (o : O) (n : Nat) (st : List O) (ho : BoxOk o) (hn : n ≤ 1000000) :
    vCO (runFd cal f_Lshuffled [.own o, .val (.int n)] st) fun r os st' => st' = st ∧ ∃ (f : Nat → Nat) (o' : O), Prm n f ∧ BoxOk o' ∧ r = .new (.lst (rowL n f)) ∧ os = [o'] := by
  refine v_wCO_run ⟨rfl, rfl, by decide⟩ ?_
  show V (denBl cal [0] c_Lshuffled) _ ⟨[.own o, .val (.int n), .no, .no], st⟩
  unfold c_Lshuffled
  simp (disch := first | omega | (simp only [List.length_map, F_len, List.length_append, List.length_cons, List.length_nil] <;> omega)) only [↓vA, uA, Option.bind_some, Option.map_some, Option.bind_none, Option.map_none, List.length_cons, List.length_nil, List.length_map, List.length_append, List.set_cons_zero, List.set_cons_succ, List.set_nil, List.map_cons, List.map_nil, List.cons_append, List.nil_append, List.mem_cons, List.not_mem_nil, Nat.reduceLT, Nat.reduceLeDiff, Nat.reduceAdd, Nat.reduceEqDiff, Nat.zero_add, Nat.lt_add_one, not_false_eq_true, or_false, false_or, or_self, and_true, true_and, and_self, List.getD_cons_zero, List.getD_cons_succ, Nat.succ_ne_self, reduceCtorEq, ne_eq, List.replicate_zero, List.append_nil, Int.reduceToNat, Nat.zero_lt_succ, Nat.reduceSub, Nat.one_ne_zero, Nat.zero_ne_one, f_Lshuffled]
  refine lc_dr (fun k acc s => ∃ (xs left : List Nat) (o : O) (x : Sl), BoxOk o ∧ s = ⟨[.own o, .val (.int n), .own (.lst (left.map nD)), x], st⟩ ∧ acc = xs.map nD ∧ (xs ++ left).Perm (List.range n) ∧ left.length = n - k ∧ xs.length = k) ?_ (by omega) ?_ ?_ ?_
  · refine ⟨[], List.range n, o, .no, ho, ?_, rfl, ?_, ?_, rfl⟩
    · simp only [F]; rfl
    · exact List.Perm.refl _
    · simp
  · rintro k acc s ⟨xs, left, o, x, _, _, rfl, _, _, h⟩
    simp [h]
  · rintro k hk acc s ⟨xs, left, o, x, hb, rfl, rfl, hp, hl, hx⟩
    simp (disch := first | omega | (simp only [List.length_map, F_len, List.length_append, List.length_cons, List.length_nil] <;> omega)) only [↓vA, uA, Option.bind_some, Option.map_some, Option.bind_none, Option.map_none, List.length_cons, List.length_nil, List.length_map, List.length_append, List.set_cons_zero, List.set_cons_succ, List.set_nil, List.map_cons, List.map_nil, List.cons_append, List.nil_append, List.mem_cons, List.not_mem_nil, Nat.reduceLT, Nat.reduceLeDiff, Nat.reduceAdd, Nat.reduceEqDiff, Nat.zero_add, Nat.lt_add_one, not_false_eq_true, or_false, false_or, or_self, and_true, true_and, and_self, List.getD_cons_zero, List.getD_cons_succ, Nat.succ_ne_self, reduceCtorEq, ne_eq, List.replicate_zero, List.append_nil, Int.reduceToNat, Nat.zero_lt_succ, Nat.reduceSub, Nat.one_ne_zero, Nat.zero_ne_one]
    refine hT.use hb (by omega) (by omega) fun j o' hj hb' => ?_
    simp (disch := first | omega | (simp only [List.length_map, F_len, List.length_append, List.length_cons, List.length_nil] <;> omega)) only [↓vA, uA, Option.bind_some, Option.map_some, Option.bind_none, Option.map_none, List.length_cons, List.length_nil, List.length_map, List.length_append, List.set_cons_zero, List.set_cons_succ, List.set_nil, List.map_cons, List.map_nil, List.cons_append, List.nil_append, List.mem_cons, List.not_mem_nil, Nat.reduceLT, Nat.reduceLeDiff, Nat.reduceAdd, Nat.reduceEqDiff, Nat.zero_add, Nat.lt_add_one, not_false_eq_true, or_false, false_or, or_self, and_true, true_and, and_self, List.getD_cons_zero, List.getD_cons_succ, Nat.succ_ne_self, reduceCtorEq, ne_eq, List.replicate_zero, List.append_nil, Int.reduceToNat, Nat.zero_lt_succ, Nat.reduceSub, Nat.one_ne_zero, Nat.zero_ne_one, mut_popN]
    refine ⟨xs ++ [left.getD j 0], left.eraseIdx j, o', .val (.int k), hb', rfl, by simp, ?_, ?_, by simp [hx]⟩
    · refine List.Perm.trans ?_ hp
      have hj2 : j < left.length := by omega
      have e : left.getD j 0 = left[j] := by simp [hj2]
      rw [e, List.append_assoc]
      refine List.Perm.append_left _ ?_
      exact cons_eraseIdx_perm left j hj2
    · rw [List.length_eraseIdx]; split <;> omega
  · rintro acc s ⟨xs, left, o, x, hb, rfl, rfl, hp, hl, hx⟩
    have : left = [] := List.eq_nil_of_length_eq_zero (by omega)
    subst this
    rw [List.append_nil] at hp
    obtain ⟨f, hf, e⟩ := prm_of_perm hp
    simp (disch := first | omega | (simp only [List.length_map, F_len, List.length_append, List.length_cons, List.length_nil] <;> omega)) only [↓vA, uA, Option.bind_some, Option.map_some, Option.bind_none, Option.map_none, List.length_cons, List.length_nil, List.length_map, List.length_append, List.set_cons_zero, List.set_cons_succ, List.set_nil, List.map_cons, List.map_nil, List.cons_append, List.nil_append, List.mem_cons, List.not_mem_nil, Nat.reduceLT, Nat.reduceLeDiff, Nat.reduceAdd, Nat.reduceEqDiff, Nat.zero_add, Nat.lt_add_one, not_false_eq_true, or_false, false_or, or_self, and_true, true_and, and_self, List.getD_cons_zero, List.getD_cons_succ, Nat.succ_ne_self, reduceCtorEq, ne_eq, List.replicate_zero, List.append_nil, Int.reduceToNat, Nat.zero_lt_succ, Nat.reduceSub, Nat.one_ne_zero, Nat.zero_ne_one]
    rw [e]
    exact ⟨f, o, hf, hb, rfl, rfl⟩
end NH.DR

set_option Elab.async false
set_option linter.all false
set_option maxRecDepth 100000
set_option maxHeartbeats 1000000
set_option autoImplicit false
namespace NH.DR
open PySem L2
theorem atI_if {c : Bool} {x y : Int} : atI [D.int x, D.int y] (if c = true then 1 else 0) = some (.int (if c = true then y else x)) := by
  cases c <;> rfl
def Box (cal : Cal) : Prop := ∀ (ns : List Int) (k : Nat) (st : List O), ns.length ≤ 63 → k ≤ 100000 →
    vCO (cal "_law_box" [.val (.klst (ns.map D.int)), .val (.int k)] st) fun r os st' => st' = st ∧ ∃ (o' : O), BoxOk o' ∧ r = .new o' ∧ os = []
theorem Box.use {cal : Cal} (h : Box cal) {ns : List Int} {k : Nat} {st : List O} {K : Rt → List O → List O → Prop} (hn : ns.length ≤ 63) (hk : k ≤ 100000)
    (q : ∀ (o' : O), BoxOk o' → K (.new o') [] st) : vCO (cal "_law_box" [.val (.klst (ns.map D.int)), .val (.int k)] st) K := by
  refine v_wCO_mono (h ns k st hn hk) ?_
  rintro _ _ _ ⟨rfl, o', h2, rfl, rfl⟩
  exact q o' h2
theorem box_run (cal : Cal) (ns : List Int) (k : Nat) (st : List O) (hn : ns.length ≤ 63) (hk : k ≤ 100000) :
    vCO (runFd cal f_Lbox [.val (.klst (ns.map D.int)), .val (.int k)] st) fun r os st' => st' = st ∧ ∃ (o' : O), BoxOk o' ∧ r = .new o' ∧ os = [] := by
  refine v_wCO_run ⟨rfl, rfl, by decide⟩ ?_
  show V (denBl cal [] c_Lbox) _ ⟨[.val (.klst (ns.map D.int)), .val (.int k), .no, .no], st⟩
  unfold c_Lbox
  have e1 : binCt .pow (.d (.int (10 : Int))) (.d (.int 18)) = some (.val (.int (10 ^ 18))) := bin_pow (by decide)
  simp (disch := first | omega | (simp only [List.length_map, F_len, List.length_append, List.length_cons, List.length_nil] <;> omega)) only [↓vA, uA, Option.bind_some, Option.map_some, Option.bind_none, Option.map_none, List.length_cons, List.length_nil, List.length_map, List.length_append, List.set_cons_zero, List.set_cons_succ, List.set_nil, List.map_cons, List.map_nil, List.cons_append, List.nil_append, List.mem_cons, List.not_mem_nil, Nat.reduceLT, Nat.reduceLeDiff, Nat.reduceAdd, Nat.reduceEqDiff, Nat.zero_add, Nat.lt_add_one, not_false_eq_true, or_false, false_or, or_self, and_true, true_and, and_self, List.getD_cons_zero, List.getD_cons_succ, Nat.succ_ne_self, reduceCtorEq, ne_eq, List.replicate_zero, List.append_nil, Int.reduceToNat, Nat.zero_lt_succ, Nat.reduceSub, Nat.one_ne_zero, Nat.zero_ne_one, f_Lbox, bin_pow, atI_if, e1]
  refine v_wBr_dec (fun h => ?_) (fun h => ?_)
  · simp (disch := first | omega | (simp only [List.length_map, F_len, List.length_append, List.length_cons, List.length_nil] <;> omega)) only [↓vA, uA, Option.bind_some, Option.map_some, Option.bind_none, Option.map_none, List.length_cons, List.length_nil, List.length_map, List.length_append, List.set_cons_zero, List.set_cons_succ, List.set_nil, List.map_cons, List.map_nil, List.cons_append, List.nil_append, List.mem_cons, List.not_mem_nil, Nat.reduceLT, Nat.reduceLeDiff, Nat.reduceAdd, Nat.reduceEqDiff, Nat.zero_add, Nat.lt_add_one, not_false_eq_true, or_false, false_or, or_self, and_true, true_and, and_self, List.getD_cons_zero, List.getD_cons_succ, Nat.succ_ne_self, reduceCtorEq, ne_eq, List.replicate_zero, List.append_nil, Int.reduceToNat, Nat.zero_lt_succ, Nat.reduceSub, Nat.one_ne_zero, Nat.zero_ne_one, map_get (d := (0 : Int)), bin_pow, atI_if, e1]
    exact ⟨_, ⟨_, _, rfl⟩, rfl⟩
  · simp (disch := first | omega | (simp only [List.length_map, F_len, List.length_append, List.length_cons, List.length_nil] <;> omega)) only [↓vA, uA, Option.bind_some, Option.map_some, Option.bind_none, Option.map_none, List.length_cons, List.length_nil, List.length_map, List.length_append, List.set_cons_zero, List.set_cons_succ, List.set_nil, List.map_cons, List.map_nil, List.cons_append, List.nil_append, List.mem_cons, List.not_mem_nil, Nat.reduceLT, Nat.reduceLeDiff, Nat.reduceAdd, Nat.reduceEqDiff, Nat.zero_add, Nat.lt_add_one, not_false_eq_true, or_false, false_or, or_self, and_true, true_and, and_self, List.getD_cons_zero, List.getD_cons_succ, Nat.succ_ne_self, reduceCtorEq, ne_eq, List.replicate_zero, List.append_nil, Int.reduceToNat, Nat.zero_lt_succ, Nat.reduceSub, Nat.one_ne_zero, Nat.zero_ne_one]
    refine v_wBr_dec (fun h => ?_) (fun h => ?_)
    · have : k % ns.length < ns.length := Nat.mod_lt _ (by omega)
      simp (disch := first | omega | (simp only [List.length_map, F_len, List.length_append, List.length_cons, List.length_nil] <;> omega)) only [↓vA, uA, Option.bind_some, Option.map_some, Option.bind_none, Option.map_none, List.length_cons, List.length_nil, List.length_map, List.length_append, List.set_cons_zero, List.set_cons_succ, List.set_nil, List.map_cons, List.map_nil, List.cons_append, List.nil_append, List.mem_cons, List.not_mem_nil, Nat.reduceLT, Nat.reduceLeDiff, Nat.reduceAdd, Nat.reduceEqDiff, Nat.zero_add, Nat.lt_add_one, not_false_eq_true, or_false, false_or, or_self, and_true, true_and, and_self, List.getD_cons_zero, List.getD_cons_succ, Nat.succ_ne_self, reduceCtorEq, ne_eq, List.replicate_zero, List.append_nil, Int.reduceToNat, Nat.zero_lt_succ, Nat.reduceSub, Nat.one_ne_zero, Nat.zero_ne_one, map_get (d := (0 : Int)), bin_pow, atI_if, e1]
      exact ⟨_, ⟨_, _, rfl⟩, rfl⟩
    · simp (disch := first | omega | (simp only [List.length_map, F_len, List.length_append, List.length_cons, List.length_nil] <;> omega)) only [↓vA, uA, Option.bind_some, Option.map_some, Option.bind_none, Option.map_none, List.length_cons, List.length_nil, List.length_map, List.length_append, List.set_cons_zero, List.set_cons_succ, List.set_nil, List.map_cons, List.map_nil, List.cons_append, List.nil_append, List.mem_cons, List.not_mem_nil, Nat.reduceLT, Nat.reduceLeDiff, Nat.reduceAdd, Nat.reduceEqDiff, Nat.zero_add, Nat.lt_add_one, not_false_eq_true, or_false, false_or, or_self, and_true, true_and, and_self, List.getD_cons_zero, List.getD_cons_succ, Nat.succ_ne_self, reduceCtorEq, ne_eq, List.replicate_zero, List.append_nil, Int.reduceToNat, Nat.zero_lt_succ, Nat.reduceSub, Nat.one_ne_zero, Nat.zero_ne_one, bin_pow, atI_if, e1]
      exact ⟨_, ⟨_, _, rfl⟩, rfl⟩
end NH.DR

set_option Elab.async false
set_option linter.all false
set_option maxRecDepth 100000
set_option maxHeartbeats 1000000
set_option autoImplicit false
namespace NH.DR
open PySem L2
abbrev End := Nat × Nat
def pD (e : End) : D := .tup [.int (e.1 : Nat), .int (e.2 : Nat)]
def tieD (t : End × End) : D := .tup [pD t.1, pD t.2]
/-- ties so far: each peg of each hand stands at just one of them -/
structure TI (many : Nat) (cnt : Nat → Nat) (T : List (End × End)) : Prop where
  rng : ∀ t ∈ T, (t.1.1 < many ∧ t.1.2 < cnt t.1.1) ∧ (t.2.1 < many ∧ t.2.2 < cnt t.2.1)
  cov : ∀ h, h < many → ∀ s, s < cnt h → ∃ t ∈ T, t.1 = (h, s) ∨ t.2 = (h, s)
  dis : T.Pairwise fun t u => t.1 ≠ u.1 ∧ t.1 ≠ u.2 ∧ t.2 ≠ u.1 ∧ t.2 ≠ u.2
theorem TI.add {many : Nat} {cnt cnt' : Nat → Nat} {T : List (End × End)} {t : End × End} (h : TI many cnt T)
    (hm : ∀ h s, s < cnt' h ↔ s < cnt h ∨ (h, s) = t.1 ∨ (h, s) = t.2) (h1 : ¬ t.1.2 < cnt t.1.1) (h2 : ¬ t.2.2 < cnt t.2.1) (m1 : t.1.1 < many) (m2 : t.2.1 < many) : TI many cnt' (T ++ [t]) := by
  refine ⟨fun u hu => ?_, fun g hg s hs => ?_, ?_⟩
  · rcases List.mem_append.mp hu with hu | hu
    · obtain ⟨⟨a, b⟩, c, d⟩ := h.rng u hu
      exact ⟨⟨a, (hm _ _).mpr (.inl b)⟩, c, (hm _ _).mpr (.inl d)⟩
    · rw [List.mem_singleton.mp hu]
      exact ⟨⟨m1, (hm _ _).mpr (.inr (.inl rfl))⟩, m2, (hm _ _).mpr (.inr (.inr rfl))⟩
  · rcases (hm g s).mp hs with hs | hs | hs
    · obtain ⟨u, hu, e⟩ := h.cov g hg s hs
      exact ⟨u, List.mem_append_left _ hu, e⟩
    · exact ⟨t, by simp, .inl hs.symm⟩
    · exact ⟨t, by simp, .inr hs.symm⟩
  · refine List.pairwise_append.mpr ⟨h.dis, List.pairwise_singleton _ _, fun u hu v hv => ?_⟩
    rw [List.mem_singleton.mp hv]
    obtain ⟨⟨a, b⟩, c, d⟩ := h.rng u hu
    refine ⟨fun e => h1 (e ▸ b), fun e => h2 (e ▸ b), fun e => h1 (e ▸ d), fun e => h2 (e ▸ d)⟩
theorem up_cnt {c : Nat → Nat} {i v : Nat} : up (fun h => D.int ((c h : Nat) : Int)) i (.int (v : Int)) = fun h => .int ((up c i v h : Nat) : Int) := by
  funext h; unfold up; split <;> rfl
theorem up_cntL {c : Nat → Nat} {i v : Nat} : up (fun h => D.int ((c h : Nat) : Int)) i (.int (no_index (OfNat.ofNat v))) = fun h => .int ((up c i (OfNat.ofNat v) h : Nat) : Int) := up_cnt
/-- _law_ties -/
structure TiesOk (many room : Nat) (cnt : Nat → Nat) (T : List (End × End)) : Prop where
  ti : TI many cnt T
  room : ∀ h, cnt h ≤ room
  conn : ∀ h, 1 ≤ h → h < many → ∃ t ∈ T, t.1.1 = h ∧ t.2.1 < h
  len : T.length ≤ many + 4
def Ties (cal : Cal) : Prop := ∀ (o : O) (many room : Nat) (st : List O), BoxOk o → 1 ≤ many → many ≤ 1000 → 2 ≤ room → room ≤ 1000 →
    vCO (cal "_law_ties" [.own o, .val (.int many), .val (.int room)] st) fun r os st' => st' = st ∧ ∃ cnt T o', TiesOk many room cnt T ∧ BoxOk o' ∧ r = .val (.tup [.lst (T.map tieD), .lst (rowL many cnt)]) ∧ os = [o']
theorem ties_run {cal : Cal} (hT : Take cal) (o : O) (many room : Nat) (st : List O) (ho : BoxOk o) (hm : 1 ≤ many) (hm2 : many ≤ 1000) (hr : 2 ≤ room) (hr2 : room ≤ 1000) :
    vCO (runFd cal f_Lties [.own o, .val (.int many), .val (.int room)] st) fun r os st' => st' = st ∧ ∃ cnt T o', TiesOk many room cnt T ∧ BoxOk o' ∧ r = .val (.tup [.lst (T.map tieD), .lst (rowL many cnt)]) ∧ os = [o'] := by
  refine v_wCO_run ⟨rfl, rfl, by decide⟩ ?_
  show V (denBl cal [0] c_Lties) _ ⟨[.own o, .val (.int many), .val (.int room), .no, .no, .no, .no, .no, .no, .no], st⟩
  unfold c_Lties
  simp (disch := first | omega | (simp only [List.length_map, F_len, List.length_append, List.length_cons, List.length_nil] <;> omega)) only [↓vA, uA, Option.bind_some, Option.map_some, Option.bind_none, Option.map_none, List.length_cons, List.length_nil, List.length_map, List.length_append, List.set_cons_zero, List.set_cons_succ, List.set_nil, List.map_cons, List.map_nil, List.cons_append, List.nil_append, List.mem_cons, List.not_mem_nil, Nat.reduceLT, Nat.reduceLeDiff, Nat.reduceAdd, Nat.reduceEqDiff, Nat.zero_add, Nat.lt_add_one, not_false_eq_true, or_false, false_or, or_self, and_true, true_and, and_self, List.getD_cons_zero, List.getD_cons_succ, Nat.succ_ne_self, reduceCtorEq, ne_eq, List.replicate_zero, List.append_nil, Int.reduceToNat, Nat.zero_lt_succ, Nat.reduceSub, Nat.one_ne_zero, Nat.zero_ne_one, f_Lties]
  refine for_ix (fun k s => ∃ (o : O) (cnt : Nat → Nat) (T : List (End × End)) (x5 x7 x8 : Sl), s = ⟨[.own o, .val (.int many), .val (.int room), .own (.lst (F many fun h => .int (cnt h : Nat))), .own (.lst (T.map tieD)), x5, .no, x7, x8, .no], st⟩ ∧ BoxOk o ∧ TI many cnt T ∧ (∀ h, cnt h ≤ room) ∧
      (∀ h, 1 ≤ h → h < k + 1 → ∃ t ∈ T, t.1.1 = h ∧ t.2.1 < h) ∧ (∀ h, k < h → cnt h = 0) ∧ cnt k ≤ 1 ∧ T.length = k) ?_ ?_ ?_
  · exact ⟨o, fun _ => 0, [], .no, .no, .no, rfl, ho, ⟨by simp, by simp, List.Pairwise.nil⟩, by simp, fun h h1 h2 => by omega, by simp, by simp, rfl⟩
  · rintro k hk _ ⟨o, cnt, T, x5, x7, x8, rfl, hb, ti, rm, cn, z, c1, tl⟩
    simp (disch := first | omega | (simp only [List.length_map, F_len, List.length_append, List.length_cons, List.length_nil] <;> omega)) only [↓vA, uA, Option.bind_some, Option.map_some, Option.bind_none, Option.map_none, List.length_cons, List.length_nil, List.length_map, List.length_append, List.set_cons_zero, List.set_cons_succ, List.set_nil, List.map_cons, List.map_nil, List.cons_append, List.nil_append, List.mem_cons, List.not_mem_nil, Nat.reduceLT, Nat.reduceLeDiff, Nat.reduceAdd, Nat.reduceEqDiff, Nat.zero_add, Nat.lt_add_one, not_false_eq_true, or_false, false_or, or_self, and_true, true_and, and_self, List.getD_cons_zero, List.getD_cons_succ, Nat.succ_ne_self, reduceCtorEq, ne_eq, List.replicate_zero, List.append_nil, Int.reduceToNat, Nat.zero_lt_succ, Nat.reduceSub, Nat.one_ne_zero, Nat.zero_ne_one]
    refine lc_filter (fun g => decide (cnt g < room)) (fun g => .int (g : Nat)) ?_ (fun g hg => ?_) ?_
    · omega
    · simp (disch := first | omega | (simp only [List.length_map, F_len, List.length_append, List.length_cons, List.length_nil] <;> omega)) only [↓vA, uA, Option.bind_some, Option.map_some, Option.bind_none, Option.map_none, List.length_cons, List.length_nil, List.length_map, List.length_append, List.set_cons_zero, List.set_cons_succ, List.set_nil, List.map_cons, List.map_nil, List.cons_append, List.nil_append, List.mem_cons, List.not_mem_nil, Nat.reduceLT, Nat.reduceLeDiff, Nat.reduceAdd, Nat.reduceEqDiff, Nat.zero_add, Nat.lt_add_one, not_false_eq_true, or_false, false_or, or_self, and_true, true_and, and_self, List.getD_cons_zero, List.getD_cons_succ, Nat.succ_ne_self, reduceCtorEq, ne_eq, List.replicate_zero, List.append_nil, Int.reduceToNat, Nat.zero_lt_succ, Nat.reduceSub, Nat.one_ne_zero, Nat.zero_ne_one]
      refine v_wIf_dec (fun h => ?_) (fun h => ?_)
      · simp (disch := first | omega | (simp only [List.length_map, F_len, List.length_append, List.length_cons, List.length_nil] <;> omega)) only [↓vA, uA, Option.bind_some, Option.map_some, Option.bind_none, Option.map_none, List.length_cons, List.length_nil, List.length_map, List.length_append, List.set_cons_zero, List.set_cons_succ, List.set_nil, List.map_cons, List.map_nil, List.cons_append, List.nil_append, List.mem_cons, List.not_mem_nil, Nat.reduceLT, Nat.reduceLeDiff, Nat.reduceAdd, Nat.reduceEqDiff, Nat.zero_add, Nat.lt_add_one, not_false_eq_true, or_false, false_or, or_self, and_true, true_and, and_self, List.getD_cons_zero, List.getD_cons_succ, Nat.succ_ne_self, reduceCtorEq, ne_eq, List.replicate_zero, List.append_nil, Int.reduceToNat, Nat.zero_lt_succ, Nat.reduceSub, Nat.one_ne_zero, Nat.zero_ne_one]
      · simp (disch := first | omega | (simp only [List.length_map, F_len, List.length_append, List.length_cons, List.length_nil] <;> omega)) only [↓vA, uA, Option.bind_some, Option.map_some, Option.bind_none, Option.map_none, List.length_cons, List.length_nil, List.length_map, List.length_append, List.set_cons_zero, List.set_cons_succ, List.set_nil, List.map_cons, List.map_nil, List.cons_append, List.nil_append, List.mem_cons, List.not_mem_nil, Nat.reduceLT, Nat.reduceLeDiff, Nat.reduceAdd, Nat.reduceEqDiff, Nat.zero_add, Nat.lt_add_one, not_false_eq_true, or_false, false_or, or_self, and_true, true_and, and_self, List.getD_cons_zero, List.getD_cons_succ, Nat.succ_ne_self, reduceCtorEq, ne_eq, List.replicate_zero, List.append_nil, Int.reduceToNat, Nat.zero_lt_succ, Nat.reduceSub, Nat.one_ne_zero, Nat.zero_ne_one]
    have pos : k ∈ (List.range (1 + k)).filter (fun g => decide (cnt g < room)) := by
      rw [List.mem_filter, List.mem_range]
      exact ⟨by omega, by simp; omega⟩
    have all : ∀ g ∈ (List.range (1 + k)).filter (fun g => decide (cnt g < room)), g < 1 + k ∧ cnt g < room := by
      intro g hg
      rw [List.mem_filter, List.mem_range] at hg
      exact ⟨hg.1, of_decide_eq_true hg.2⟩
    have sz : ((List.range (1 + k)).filter (fun g => decide (cnt g < room))).length ≤ 1 + k := Nat.le_trans (List.length_filter_le _ _) (by simp)
    generalize (List.range (1 + k)).filter (fun g => decide (cnt g < room)) = some at pos all sz
    have p0 : 0 < some.length := List.length_pos_of_mem pos
    simp (disch := first | omega | (simp only [List.length_map, F_len, List.length_append, List.length_cons, List.length_nil] <;> omega)) only [↓vA, uA, Option.bind_some, Option.map_some, Option.bind_none, Option.map_none, List.length_cons, List.length_nil, List.length_map, List.length_append, List.set_cons_zero, List.set_cons_succ, List.set_nil, List.map_cons, List.map_nil, List.cons_append, List.nil_append, List.mem_cons, List.not_mem_nil, Nat.reduceLT, Nat.reduceLeDiff, Nat.reduceAdd, Nat.reduceEqDiff, Nat.zero_add, Nat.lt_add_one, not_false_eq_true, or_false, false_or, or_self, and_true, true_and, and_self, List.getD_cons_zero, List.getD_cons_succ, Nat.succ_ne_self, reduceCtorEq, ne_eq, List.replicate_zero, List.append_nil, Int.reduceToNat, Nat.zero_lt_succ, Nat.reduceSub, Nat.one_ne_zero, Nat.zero_ne_one]
    refine hT.use hb (by omega) (by omega) fun j o' hj hb' => ?_
    obtain ⟨g1, g2⟩ := all _ (getD_mem (d := 0) hj)
    generalize hg : some.getD j 0 = g at g1 g2
    simp (disch := first | omega | (simp only [List.length_map, F_len, List.length_append, List.length_cons, List.length_nil] <;> omega)) only [↓vA, uA, Option.bind_some, Option.map_some, Option.bind_none, Option.map_none, List.length_cons, List.length_nil, List.length_map, List.length_append, List.set_cons_zero, List.set_cons_succ, List.set_nil, List.map_cons, List.map_nil, List.cons_append, List.nil_append, List.mem_cons, List.not_mem_nil, Nat.reduceLT, Nat.reduceLeDiff, Nat.reduceAdd, Nat.reduceEqDiff, Nat.zero_add, Nat.lt_add_one, not_false_eq_true, or_false, false_or, or_self, and_true, true_and, and_self, List.getD_cons_zero, List.getD_cons_succ, Nat.succ_ne_self, reduceCtorEq, ne_eq, List.replicate_zero, List.append_nil, Int.reduceToNat, Nat.zero_lt_succ, Nat.reduceSub, Nat.one_ne_zero, Nat.zero_ne_one, map_get (d := 0), hg, up_cnt, up_cntL]
    refine ⟨o', up (up cnt (1 + k) 1) g (cnt g + 1), T ++ [((1 + k, 0), (g, cnt g))], _, _, _, by rw [List.map_append]; rfl, hb', ?_, ?_, ?_, ?_, ?_, by simp [tl]⟩
    · refine ti.add (fun h s => ?_) ?_ ?_ ?_ ?_
      · have := z (1 + k) (by omega)
        unfold up
        simp only [Prod.mk.injEq]
        split
        · rename_i e; subst e; omega
        · split
          · rename_i e; subst e; omega
          · omega
      · simp only; have := z (1 + k) (by omega); omega
      · simp only; omega
      · simp only; omega
      · simp only; omega
    · intro h
      unfold up
      have := rm h
      split
      · rename_i e; subst e; omega
      · split <;> omega
    · intro h h1 h2
      by_cases e : h = 1 + k
      · subst e
        exact ⟨((1 + k, 0), (g, cnt g)), by simp, rfl, g1⟩
      · obtain ⟨t, ht, q⟩ := cn h h1 (by omega)
        exact ⟨t, List.mem_append_left _ ht, q⟩
    · intro h hh
      unfold up
      rw [if_neg (by omega), if_neg (by omega)]
      exact z h (by omega)
    · unfold up
      rw [if_neg (by omega), if_pos (by omega)]
      omega
  · rintro _ ⟨o, cnt, T, x5, x7, x8, rfl, hb, ti, rm, cn, z, c1, tl⟩
    have e1 : many - 1 + 1 = many := by omega
    rw [e1] at cn
    clear z c1 e1
    simp (disch := first | omega | (simp only [List.length_map, F_len, List.length_append, List.length_cons, List.length_nil] <;> omega)) only [↓vA, uA, Option.bind_some, Option.map_some, Option.bind_none, Option.map_none, List.length_cons, List.length_nil, List.length_map, List.length_append, List.set_cons_zero, List.set_cons_succ, List.set_nil, List.map_cons, List.map_nil, List.cons_append, List.nil_append, List.mem_cons, List.not_mem_nil, Nat.reduceLT, Nat.reduceLeDiff, Nat.reduceAdd, Nat.reduceEqDiff, Nat.zero_add, Nat.lt_add_one, not_false_eq_true, or_false, false_or, or_self, and_true, true_and, and_self, List.getD_cons_zero, List.getD_cons_succ, Nat.succ_ne_self, reduceCtorEq, ne_eq, List.replicate_zero, List.append_nil, Int.reduceToNat, Nat.zero_lt_succ, Nat.reduceSub, Nat.one_ne_zero, Nat.zero_ne_one]
    refine hT.useL hb (by omega) (by omega) fun more o' hj hb' => ?_
    simp (disch := first | omega | (simp only [List.length_map, F_len, List.length_append, List.length_cons, List.length_nil] <;> omega)) only [↓vA, uA, Option.bind_some, Option.map_some, Option.bind_none, Option.map_none, List.length_cons, List.length_nil, List.length_map, List.length_append, List.set_cons_zero, List.set_cons_succ, List.set_nil, List.map_cons, List.map_nil, List.cons_append, List.nil_append, List.mem_cons, List.not_mem_nil, Nat.reduceLT, Nat.reduceLeDiff, Nat.reduceAdd, Nat.reduceEqDiff, Nat.zero_add, Nat.lt_add_one, not_false_eq_true, or_false, false_or, or_self, and_true, true_and, and_self, List.getD_cons_zero, List.getD_cons_succ, Nat.succ_ne_self, reduceCtorEq, ne_eq, List.replicate_zero, List.append_nil, Int.reduceToNat, Nat.zero_lt_succ, Nat.reduceSub, Nat.one_ne_zero, Nat.zero_ne_one]
    refine for_ix (fun k s => ∃ (o : O) (cnt : Nat → Nat) (T : List (End × End)) (x5 x6 x7 x8 x9 : Sl), s = ⟨[.own o, .val (.int many), .val (.int room), .own (.lst (F many fun h => .int (cnt h : Nat))), .own (.lst (T.map tieD)), x5, x6, x7, x8, x9], st⟩ ∧ BoxOk o ∧ TI many cnt T ∧ (∀ h, cnt h ≤ room) ∧
      (∀ h, 1 ≤ h → h < many → ∃ t ∈ T, t.1.1 = h ∧ t.2.1 < h) ∧ T.length ≤ many + k) ?_ ?_ ?_
    · exact ⟨o', cnt, T, _, _, _, _, _, rfl, hb', ti, rm, cn, by omega⟩
    · rintro k hk _ ⟨o, cnt, T, x5, x6, x7, x8, x9, rfl, hb, ti, rm, cn, tl⟩
      simp (disch := first | omega | (simp only [List.length_map, F_len, List.length_append, List.length_cons, List.length_nil] <;> omega)) only [↓vA, uA, Option.bind_some, Option.map_some, Option.bind_none, Option.map_none, List.length_cons, List.length_nil, List.length_map, List.length_append, List.set_cons_zero, List.set_cons_succ, List.set_nil, List.map_cons, List.map_nil, List.cons_append, List.nil_append, List.mem_cons, List.not_mem_nil, Nat.reduceLT, Nat.reduceLeDiff, Nat.reduceAdd, Nat.reduceEqDiff, Nat.zero_add, Nat.lt_add_one, not_false_eq_true, or_false, false_or, or_self, and_true, true_and, and_self, List.getD_cons_zero, List.getD_cons_succ, Nat.succ_ne_self, reduceCtorEq, ne_eq, List.replicate_zero, List.append_nil, Int.reduceToNat, Nat.zero_lt_succ, Nat.reduceSub, Nat.one_ne_zero, Nat.zero_ne_one]
      refine lc_filter (fun g => decide (cnt g < room)) (fun g => .int (g : Nat)) ?_ (fun g hg => ?_) ?_
      · omega
      · simp (disch := first | omega | (simp only [List.length_map, F_len, List.length_append, List.length_cons, List.length_nil] <;> omega)) only [↓vA, uA, Option.bind_some, Option.map_some, Option.bind_none, Option.map_none, List.length_cons, List.length_nil, List.length_map, List.length_append, List.set_cons_zero, List.set_cons_succ, List.set_nil, List.map_cons, List.map_nil, List.cons_append, List.nil_append, List.mem_cons, List.not_mem_nil, Nat.reduceLT, Nat.reduceLeDiff, Nat.reduceAdd, Nat.reduceEqDiff, Nat.zero_add, Nat.lt_add_one, not_false_eq_true, or_false, false_or, or_self, and_true, true_and, and_self, List.getD_cons_zero, List.getD_cons_succ, Nat.succ_ne_self, reduceCtorEq, ne_eq, List.replicate_zero, List.append_nil, Int.reduceToNat, Nat.zero_lt_succ, Nat.reduceSub, Nat.one_ne_zero, Nat.zero_ne_one]
        refine v_wIf_dec (fun h => ?_) (fun h => ?_)
        · simp (disch := first | omega | (simp only [List.length_map, F_len, List.length_append, List.length_cons, List.length_nil] <;> omega)) only [↓vA, uA, Option.bind_some, Option.map_some, Option.bind_none, Option.map_none, List.length_cons, List.length_nil, List.length_map, List.length_append, List.set_cons_zero, List.set_cons_succ, List.set_nil, List.map_cons, List.map_nil, List.cons_append, List.nil_append, List.mem_cons, List.not_mem_nil, Nat.reduceLT, Nat.reduceLeDiff, Nat.reduceAdd, Nat.reduceEqDiff, Nat.zero_add, Nat.lt_add_one, not_false_eq_true, or_false, false_or, or_self, and_true, true_and, and_self, List.getD_cons_zero, List.getD_cons_succ, Nat.succ_ne_self, reduceCtorEq, ne_eq, List.replicate_zero, List.append_nil, Int.reduceToNat, Nat.zero_lt_succ, Nat.reduceSub, Nat.one_ne_zero, Nat.zero_ne_one]
        · simp (disch := first | omega | (simp only [List.length_map, F_len, List.length_append, List.length_cons, List.length_nil] <;> omega)) only [↓vA, uA, Option.bind_some, Option.map_some, Option.bind_none, Option.map_none, List.length_cons, List.length_nil, List.length_map, List.length_append, List.set_cons_zero, List.set_cons_succ, List.set_nil, List.map_cons, List.map_nil, List.cons_append, List.nil_append, List.mem_cons, List.not_mem_nil, Nat.reduceLT, Nat.reduceLeDiff, Nat.reduceAdd, Nat.reduceEqDiff, Nat.zero_add, Nat.lt_add_one, not_false_eq_true, or_false, false_or, or_self, and_true, true_and, and_self, List.getD_cons_zero, List.getD_cons_succ, Nat.succ_ne_self, reduceCtorEq, ne_eq, List.replicate_zero, List.append_nil, Int.reduceToNat, Nat.zero_lt_succ, Nat.reduceSub, Nat.one_ne_zero, Nat.zero_ne_one]
      have all : ∀ g ∈ (List.range many).filter (fun g => decide (cnt g < room)), g < many ∧ cnt g < room := by
        intro g hg
        rw [List.mem_filter, List.mem_range] at hg
        exact ⟨hg.1, of_decide_eq_true hg.2⟩
      have sz : ((List.range many).filter (fun g => decide (cnt g < room))).length ≤ many := Nat.le_trans (List.length_filter_le _ _) (by simp)
      generalize (List.range many).filter (fun g => decide (cnt g < room)) = some at all sz
      simp (disch := first | omega | (simp only [List.length_map, F_len, List.length_append, List.length_cons, List.length_nil] <;> omega)) only [↓vA, uA, Option.bind_some, Option.map_some, Option.bind_none, Option.map_none, List.length_cons, List.length_nil, List.length_map, List.length_append, List.set_cons_zero, List.set_cons_succ, List.set_nil, List.map_cons, List.map_nil, List.cons_append, List.nil_append, List.mem_cons, List.not_mem_nil, Nat.reduceLT, Nat.reduceLeDiff, Nat.reduceAdd, Nat.reduceEqDiff, Nat.zero_add, Nat.lt_add_one, not_false_eq_true, or_false, false_or, or_self, and_true, true_and, and_self, List.getD_cons_zero, List.getD_cons_succ, Nat.succ_ne_self, reduceCtorEq, ne_eq, List.replicate_zero, List.append_nil, Int.reduceToNat, Nat.zero_lt_succ, Nat.reduceSub, Nat.one_ne_zero, Nat.zero_ne_one]
      refine v_wBr_dec (fun p0 => ?_) (fun p0 => ?_)
      · simp (disch := first | omega | (simp only [List.length_map, F_len, List.length_append, List.length_cons, List.length_nil] <;> omega)) only [↓vA, uA, Option.bind_some, Option.map_some, Option.bind_none, Option.map_none, List.length_cons, List.length_nil, List.length_map, List.length_append, List.set_cons_zero, List.set_cons_succ, List.set_nil, List.map_cons, List.map_nil, List.cons_append, List.nil_append, List.mem_cons, List.not_mem_nil, Nat.reduceLT, Nat.reduceLeDiff, Nat.reduceAdd, Nat.reduceEqDiff, Nat.zero_add, Nat.lt_add_one, not_false_eq_true, or_false, false_or, or_self, and_true, true_and, and_self, List.getD_cons_zero, List.getD_cons_succ, Nat.succ_ne_self, reduceCtorEq, ne_eq, List.replicate_zero, List.append_nil, Int.reduceToNat, Nat.zero_lt_succ, Nat.reduceSub, Nat.one_ne_zero, Nat.zero_ne_one]
        refine hT.useL hb (by omega) (by omega) fun form o1 hf hb1 => ?_
        simp (disch := first | omega | (simp only [List.length_map, F_len, List.length_append, List.length_cons, List.length_nil] <;> omega)) only [↓vA, uA, Option.bind_some, Option.map_some, Option.bind_none, Option.map_none, List.length_cons, List.length_nil, List.length_map, List.length_append, List.set_cons_zero, List.set_cons_succ, List.set_nil, List.map_cons, List.map_nil, List.cons_append, List.nil_append, List.mem_cons, List.not_mem_nil, Nat.reduceLT, Nat.reduceLeDiff, Nat.reduceAdd, Nat.reduceEqDiff, Nat.zero_add, Nat.lt_add_one, not_false_eq_true, or_false, false_or, or_self, and_true, true_and, and_self, List.getD_cons_zero, List.getD_cons_succ, Nat.succ_ne_self, reduceCtorEq, ne_eq, List.replicate_zero, List.append_nil, Int.reduceToNat, Nat.zero_lt_succ, Nat.reduceSub, Nat.one_ne_zero, Nat.zero_ne_one]
        refine hT.use hb1 (by omega) (by omega) fun j o2 hj2 hb2 => ?_
        obtain ⟨g1, g2⟩ := all _ (getD_mem (d := 0) hj2)
        generalize hg : some.getD j 0 = g at g1 g2
        simp (disch := first | omega | (simp only [List.length_map, F_len, List.length_append, List.length_cons, List.length_nil] <;> omega)) only [↓vA, uA, Option.bind_some, Option.map_some, Option.bind_none, Option.map_none, List.length_cons, List.length_nil, List.length_map, List.length_append, List.set_cons_zero, List.set_cons_succ, List.set_nil, List.map_cons, List.map_nil, List.cons_append, List.nil_append, List.mem_cons, List.not_mem_nil, Nat.reduceLT, Nat.reduceLeDiff, Nat.reduceAdd, Nat.reduceEqDiff, Nat.zero_add, Nat.lt_add_one, not_false_eq_true, or_false, false_or, or_self, and_true, true_and, and_self, List.getD_cons_zero, List.getD_cons_succ, Nat.succ_ne_self, reduceCtorEq, ne_eq, List.replicate_zero, List.append_nil, Int.reduceToNat, Nat.zero_lt_succ, Nat.reduceSub, Nat.one_ne_zero, Nat.zero_ne_one, map_get (d := 0), hg]
        refine hT.use hb2 (by omega) (by omega) fun j' o3 hj3 hb3 => ?_
        obtain ⟨h1, h2⟩ := all _ (getD_mem (d := 0) hj3)
        generalize hh : some.getD j' 0 = h at h1 h2
        simp (disch := first | omega | (simp only [List.length_map, F_len, List.length_append, List.length_cons, List.length_nil] <;> omega)) only [↓vA, uA, Option.bind_some, Option.map_some, Option.bind_none, Option.map_none, List.length_cons, List.length_nil, List.length_map, List.length_append, List.set_cons_zero, List.set_cons_succ, List.set_nil, List.map_cons, List.map_nil, List.cons_append, List.nil_append, List.mem_cons, List.not_mem_nil, Nat.reduceLT, Nat.reduceLeDiff, Nat.reduceAdd, Nat.reduceEqDiff, Nat.zero_add, Nat.lt_add_one, not_false_eq_true, or_false, false_or, or_self, and_true, true_and, and_self, List.getD_cons_zero, List.getD_cons_succ, Nat.succ_ne_self, reduceCtorEq, ne_eq, List.replicate_zero, List.append_nil, Int.reduceToNat, Nat.zero_lt_succ, Nat.reduceSub, Nat.one_ne_zero, Nat.zero_ne_one, map_get (d := 0), hh]
        have caseA : ∃ (o : O) (cnt' : Nat → Nat) (T' : List (End × End)) (x5 x6 x7 x8 x9 : Sl), (⟨[.own o3, .val (.int many), .val (.int room), .own (.lst (F many fun h => .int (up cnt g (cnt g + 1) h : Nat))), .own (.lst (T.map tieD ++ [.tup [.tup [.int (g : Nat), .int (cnt g : Nat)], .tup [.int (g : Nat), .int (cnt g : Nat)]]])), .val (.int (g : Nat)), .val (.int (k : Nat)), .val (.lst (some.map fun g => .int (g : Nat))), .val (.int (g : Nat)), .val (.int (form : Nat))], st⟩ : Sta) = ⟨[.own o, .val (.int many), .val (.int room), .own (.lst (F many fun h => .int (cnt' h : Nat))), .own (.lst (T'.map tieD)), x5, x6, x7, x8, x9], st⟩ ∧ BoxOk o ∧ TI many cnt' T' ∧ (∀ h, cnt' h ≤ room) ∧
            (∀ h, 1 ≤ h → h < many → ∃ t ∈ T', t.1.1 = h ∧ t.2.1 < h) ∧ T'.length ≤ many + (k + 1) := by
          refine ⟨o3, up cnt g (cnt g + 1), T ++ [((g, cnt g), (g, cnt g))], _, _, _, _, _, by rw [List.map_append]; rfl, hb3, ?_, ?_, ?_, by simp; omega⟩
          · refine ti.add (fun h s => ?_) ?_ ?_ ?_ ?_
            · unfold up
              simp only [Prod.mk.injEq]
              split
              · rename_i e; subst e; omega
              · omega
            · simp only; omega
            · simp only; omega
            · exact g1
            · exact g1
          · intro h
            have := rm h
            unfold up
            split
            · rename_i e; subst e; omega
            · omega
          · intro h h1 h2
            obtain ⟨t, ht, q⟩ := cn h h1 h2
            exact ⟨t, List.mem_append_left _ ht, q⟩
        refine v_wBo_orD (fun f0 => ?_) (fun f0 => ?_)
        · simp (disch := first | omega | (simp only [List.length_map, F_len, List.length_append, List.length_cons, List.length_nil] <;> omega)) only [↓vA, uA, Option.bind_some, Option.map_some, Option.bind_none, Option.map_none, List.length_cons, List.length_nil, List.length_map, List.length_append, List.set_cons_zero, List.set_cons_succ, List.set_nil, List.map_cons, List.map_nil, List.cons_append, List.nil_append, List.mem_cons, List.not_mem_nil, Nat.reduceLT, Nat.reduceLeDiff, Nat.reduceAdd, Nat.reduceEqDiff, Nat.zero_add, Nat.lt_add_one, not_false_eq_true, or_false, false_or, or_self, and_true, true_and, and_self, List.getD_cons_zero, List.getD_cons_succ, Nat.succ_ne_self, reduceCtorEq, ne_eq, List.replicate_zero, List.append_nil, Int.reduceToNat, Nat.zero_lt_succ, Nat.reduceSub, Nat.one_ne_zero, Nat.zero_ne_one, up_cnt]
          exact caseA
        · simp (disch := first | omega | (simp only [List.length_map, F_len, List.length_append, List.length_cons, List.length_nil] <;> omega)) only [↓vA, uA, Option.bind_some, Option.map_some, Option.bind_none, Option.map_none, List.length_cons, List.length_nil, List.length_map, List.length_append, List.set_cons_zero, List.set_cons_succ, List.set_nil, List.map_cons, List.map_nil, List.cons_append, List.nil_append, List.mem_cons, List.not_mem_nil, Nat.reduceLT, Nat.reduceLeDiff, Nat.reduceAdd, Nat.reduceEqDiff, Nat.zero_add, Nat.lt_add_one, not_false_eq_true, or_false, false_or, or_self, and_true, true_and, and_self, List.getD_cons_zero, List.getD_cons_succ, Nat.succ_ne_self, reduceCtorEq, ne_eq, List.replicate_zero, List.append_nil, Int.reduceToNat, Nat.zero_lt_succ, Nat.reduceSub, Nat.one_ne_zero, Nat.zero_ne_one]
          refine v_wBo_andD (fun e => ?_) (fun e => ?_)
          · subst e
            simp (disch := first | omega | (simp only [List.length_map, F_len, List.length_append, List.length_cons, List.length_nil] <;> omega)) only [↓vA, uA, Option.bind_some, Option.map_some, Option.bind_none, Option.map_none, List.length_cons, List.length_nil, List.length_map, List.length_append, List.set_cons_zero, List.set_cons_succ, List.set_nil, List.map_cons, List.map_nil, List.cons_append, List.nil_append, List.mem_cons, List.not_mem_nil, Nat.reduceLT, Nat.reduceLeDiff, Nat.reduceAdd, Nat.reduceEqDiff, Nat.zero_add, Nat.lt_add_one, not_false_eq_true, or_false, false_or, or_self, and_true, true_and, and_self, List.getD_cons_zero, List.getD_cons_succ, Nat.succ_ne_self, reduceCtorEq, ne_eq, List.replicate_zero, List.append_nil, Int.reduceToNat, Nat.zero_lt_succ, Nat.reduceSub, Nat.one_ne_zero, Nat.zero_ne_one]
            refine v_wBr_dec (fun e => ?_) (fun e => ?_)
            · simp (disch := first | omega | (simp only [List.length_map, F_len, List.length_append, List.length_cons, List.length_nil] <;> omega)) only [↓vA, uA, Option.bind_some, Option.map_some, Option.bind_none, Option.map_none, List.length_cons, List.length_nil, List.length_map, List.length_append, List.set_cons_zero, List.set_cons_succ, List.set_nil, List.map_cons, List.map_nil, List.cons_append, List.nil_append, List.mem_cons, List.not_mem_nil, Nat.reduceLT, Nat.reduceLeDiff, Nat.reduceAdd, Nat.reduceEqDiff, Nat.zero_add, Nat.lt_add_one, not_false_eq_true, or_false, false_or, or_self, and_true, true_and, and_self, List.getD_cons_zero, List.getD_cons_succ, Nat.succ_ne_self, reduceCtorEq, ne_eq, List.replicate_zero, List.append_nil, Int.reduceToNat, Nat.zero_lt_succ, Nat.reduceSub, Nat.one_ne_zero, Nat.zero_ne_one, up_cnt]
              exact caseA
            · simp (disch := first | omega | (simp only [List.length_map, F_len, List.length_append, List.length_cons, List.length_nil] <;> omega)) only [↓vA, uA, Option.bind_some, Option.map_some, Option.bind_none, Option.map_none, List.length_cons, List.length_nil, List.length_map, List.length_append, List.set_cons_zero, List.set_cons_succ, List.set_nil, List.map_cons, List.map_nil, List.cons_append, List.nil_append, List.mem_cons, List.not_mem_nil, Nat.reduceLT, Nat.reduceLeDiff, Nat.reduceAdd, Nat.reduceEqDiff, Nat.zero_add, Nat.lt_add_one, not_false_eq_true, or_false, false_or, or_self, and_true, true_and, and_self, List.getD_cons_zero, List.getD_cons_succ, Nat.succ_ne_self, reduceCtorEq, ne_eq, List.replicate_zero, List.append_nil, Int.reduceToNat, Nat.zero_lt_succ, Nat.reduceSub, Nat.one_ne_zero, Nat.zero_ne_one, up_cnt, up_same, decide_true]
              refine ⟨o3, _, T ++ [((g, cnt g), (g, cnt g + 1))], _, _, _, _, _, by rw [List.map_append]; rfl, hb3, ?_, ?_, ?_, by simp; omega⟩
              · refine ti.add (fun h s => ?_) ?_ ?_ ?_ ?_
                · unfold up
                  simp only [Prod.mk.injEq]
                  split
                  · rename_i e; subst e; omega
                  · omega
                · simp only; omega
                · simp only; omega
                · exact g1
                · exact g1
              · intro h
                have := rm h
                unfold up
                split
                · rename_i e; subst e; omega
                · omega
              · intro h h1 h2
                obtain ⟨t, ht, q⟩ := cn h h1 h2
                exact ⟨t, List.mem_append_left _ ht, q⟩
          · simp (disch := first | omega | (simp only [List.length_map, F_len, List.length_append, List.length_cons, List.length_nil] <;> omega)) only [↓vA, uA, Option.bind_some, Option.map_some, Option.bind_none, Option.map_none, List.length_cons, List.length_nil, List.length_map, List.length_append, List.set_cons_zero, List.set_cons_succ, List.set_nil, List.map_cons, List.map_nil, List.cons_append, List.nil_append, List.mem_cons, List.not_mem_nil, Nat.reduceLT, Nat.reduceLeDiff, Nat.reduceAdd, Nat.reduceEqDiff, Nat.zero_add, Nat.lt_add_one, not_false_eq_true, or_false, false_or, or_self, and_true, true_and, and_self, List.getD_cons_zero, List.getD_cons_succ, Nat.succ_ne_self, reduceCtorEq, ne_eq, List.replicate_zero, List.append_nil, Int.reduceToNat, Nat.zero_lt_succ, Nat.reduceSub, Nat.one_ne_zero, Nat.zero_ne_one, up_cnt, e, decide_false]
            rw [up_ne e]
            refine ⟨o3, _, T ++ [((g, cnt g), (h, cnt h))], _, _, _, _, _, by rw [List.map_append]; rfl, hb3, ?_, ?_, ?_, by simp; omega⟩
            · refine ti.add (fun i s => ?_) ?_ ?_ ?_ ?_
              · unfold up
                simp only [Prod.mk.injEq]
                split
                · rename_i e; subst e; omega
                · split
                  · rename_i e; subst e; omega
                  · omega
              · simp only; omega
              · simp only; omega
              · exact g1
              · exact h1
            · intro i
              have := rm i
              unfold up
              split
              · rename_i e; subst e; omega
              · split
                · rename_i e; subst e; omega
                · omega
            · intro h h1 h2
              obtain ⟨t, ht, q⟩ := cn h h1 h2
              exact ⟨t, List.mem_append_left _ ht, q⟩
      · simp (disch := first | omega | (simp only [List.length_map, F_len, List.length_append, List.length_cons, List.length_nil] <;> omega)) only [↓vA, uA, Option.bind_some, Option.map_some, Option.bind_none, Option.map_none, List.length_cons, List.length_nil, List.length_map, List.length_append, List.set_cons_zero, List.set_cons_succ, List.set_nil, List.map_cons, List.map_nil, List.cons_append, List.nil_append, List.mem_cons, List.not_mem_nil, Nat.reduceLT, Nat.reduceLeDiff, Nat.reduceAdd, Nat.reduceEqDiff, Nat.zero_add, Nat.lt_add_one, not_false_eq_true, or_false, false_or, or_self, and_true, true_and, and_self, List.getD_cons_zero, List.getD_cons_succ, Nat.succ_ne_self, reduceCtorEq, ne_eq, List.replicate_zero, List.append_nil, Int.reduceToNat, Nat.zero_lt_succ, Nat.reduceSub, Nat.one_ne_zero, Nat.zero_ne_one]
        exact ⟨o, cnt, T, _, _, _, _, _, rfl, hb, ti, rm, cn, by omega⟩
    · rintro _ ⟨o, cnt, T, x5, x6, x7, x8, x9, rfl, hb, ti, rm, cn, tl⟩
      simp (disch := first | omega | (simp only [List.length_map, F_len, List.length_append, List.length_cons, List.length_nil] <;> omega)) only [↓vA, uA, Option.bind_some, Option.map_some, Option.bind_none, Option.map_none, List.length_cons, List.length_nil, List.length_map, List.length_append, List.set_cons_zero, List.set_cons_succ, List.set_nil, List.map_cons, List.map_nil, List.cons_append, List.nil_append, List.mem_cons, List.not_mem_nil, Nat.reduceLT, Nat.reduceLeDiff, Nat.reduceAdd, Nat.reduceEqDiff, Nat.zero_add, Nat.lt_add_one, not_false_eq_true, or_false, false_or, or_self, and_true, true_and, and_self, List.getD_cons_zero, List.getD_cons_succ, Nat.succ_ne_self, reduceCtorEq, ne_eq, List.replicate_zero, List.append_nil, Int.reduceToNat, Nat.zero_lt_succ, Nat.reduceSub, Nat.one_ne_zero, Nat.zero_ne_one]
      exact ⟨cnt, T, o, ⟨ti, rm, cn, by omega⟩, hb, rfl, rfl⟩
end NH.DR

set_option Elab.async false
set_option linter.all false
set_option maxRecDepth 100000
set_option maxHeartbeats 1000000
set_option autoImplicit false
namespace NH.DR
open PySem L2
/-! ### webs -/
structure Web where
  n : Nat
  mark : Nat → Nat
  deg : Nat → Nat
  to : Nat → Nat → End
def pegsD (W : Web) (h : Nat) : D := .tup (F (W.deg h) fun p => pD (W.to h p))
def handD (W : Web) (h : Nat) : D := .tup [.int (W.mark h : Nat), pegsD W h]
def webD (W : Web) : D := .tup (F W.n (handD W))
section
variable {st : List O} {W : Web} {h k : Nat} {e : End}
theorem ct_web : ctOf st (webD W) = some (.d (webD W)) := rfl
theorem ct_hand : ctOf st (handD W h) = some (.d (handD W h)) := rfl
theorem ct_pegs : ctOf st (pegsD W h) = some (.d (pegsD W h)) := rfl
theorem ct_p : ctOf st (pD e) = some (.d (pD e)) := rfl
theorem idx_web (hk : k < W.n) : idxCt (.d (webD W)) (.d (.int (k : Nat))) = some (handD W k) := by
  unfold webD; rw [idx_tup, atI_nat, F_get hk]
theorem idx_hand0 : idxCt (.d (handD W h)) (.d (.int 0)) = some (.int (W.mark h : Nat)) := rfl
theorem idx_hand1 : idxCt (.d (handD W h)) (.d (.int 1)) = some (pegsD W h) := rfl
theorem idx_pegs (hk : k < W.deg h) : idxCt (.d (pegsD W h)) (.d (.int (k : Nat))) = some (pD (W.to h k)) := by
  unfold pegsD; rw [idx_tup, atI_nat, F_get hk]
theorem idx_p0 : idxCt (.d (pD e)) (.d (.int 0)) = some (.int (e.1 : Nat)) := rfl
theorem idx_p1 : idxCt (.d (pD e)) (.d (.int 1)) = some (.int (e.2 : Nat)) := rfl
theorem len_web : lenCt (.d (webD W)) = some W.n := by unfold webD; rw [len_tup, F_len]
theorem len_pegs : lenCt (.d (pegsD W h)) = some (W.deg h) := by unfold pegsD; rw [len_tup, F_len]
theorem items_web : itemsD (webD W) = some (F W.n (handD W)) := rfl
theorem items_hand : itemsD (handD W h) = some [.int (W.mark h : Nat), pegsD W h] := rfl
theorem items_pegs : itemsD (pegsD W h) = some (F (W.deg h) fun p => pD (W.to h p)) := rfl
theorem items_p : itemsD (pD e) = some [.int (e.1 : Nat), .int (e.2 : Nat)] := rfl
end
inductive Reach (W : Web) : Nat → Nat → Prop
  | refl (a : Nat) : Reach W a a
  | step {a b p : Nat} : Reach W a b → b < W.n → p < W.deg b → Reach W a (W.to b p).1
structure Web.Ok (W : Web) : Prop where
  pos : 0 < W.n
  mrk : ∀ h, h < W.n → W.mark h ≤ 9
  dg : ∀ h, h < W.n → W.deg h ≤ 4
  tie : ∀ h, h < W.n → ∀ p, p < W.deg h → (W.to h p).1 < W.n ∧ (W.to h p).2 < W.deg (W.to h p).1 ∧ W.to (W.to h p).1 (W.to h p).2 = (h, p)
  conn : ∀ h, h < W.n → Reach W 0 h
/-! ### _law_marks -/
def Marks (cal : Cal) : Prop := ∀ (o : O) (many : Nat) (st : List O), BoxOk o → many ≤ 1000 →
    vCO (cal "_law_marks" [.own o, .val (.int many)] st) fun r os st' => st' = st ∧ ∃ mk o', (∀ h : Nat, mk h ≤ 9) ∧ BoxOk o' ∧ r = .new (.lst (rowL many mk)) ∧ os = [o']
theorem marks_run {cal : Cal} (hT : Take cal) (o : O) (many : Nat) (st : List O) (ho : BoxOk o) (hm : many ≤ 1000) :
    vCO (runFd cal f_Lmarks [.own o, .val (.int many)] st) fun r os st' => st' = st ∧ ∃ mk o', (∀ h : Nat, mk h ≤ 9) ∧ BoxOk o' ∧ r = .new (.lst (rowL many mk)) ∧ os = [o'] := by
  refine v_wCO_run ⟨rfl, rfl, by decide⟩ ?_
  show V (denBl cal [0] c_Lmarks) _ ⟨[.own o, .val (.int many), .no, .no, .no], st⟩
  unfold c_Lmarks
  simp (disch := first | omega | (simp only [List.length_map, F_len, List.length_append, List.length_cons, List.length_nil] <;> omega)) only [↓vA, uA, Option.bind_some, Option.map_some, Option.bind_none, Option.map_none, List.length_cons, List.length_nil, List.length_map, List.length_append, List.set_cons_zero, List.set_cons_succ, List.set_nil, List.map_cons, List.map_nil, List.cons_append, List.nil_append, List.mem_cons, List.not_mem_nil, Nat.reduceLT, Nat.reduceLeDiff, Nat.reduceAdd, Nat.reduceEqDiff, Nat.zero_add, Nat.lt_add_one, not_false_eq_true, or_false, false_or, or_self, and_true, true_and, and_self, List.getD_cons_zero, List.getD_cons_succ, Nat.succ_ne_self, reduceCtorEq, ne_eq, List.replicate_zero, List.append_nil, Int.reduceToNat, Nat.zero_lt_succ, Nat.reduceSub, Nat.one_ne_zero, Nat.zero_ne_one, f_Lmarks]
  refine hT.useL ho (by omega) (by omega) fun form o1 hf hb1 => ?_
  simp (disch := first | omega | (simp only [List.length_map, F_len, List.length_append, List.length_cons, List.length_nil] <;> omega)) only [↓vA, uA, Option.bind_some, Option.map_some, Option.bind_none, Option.map_none, List.length_cons, List.length_nil, List.length_map, List.length_append, List.set_cons_zero, List.set_cons_succ, List.set_nil, List.map_cons, List.map_nil, List.cons_append, List.nil_append, List.mem_cons, List.not_mem_nil, Nat.reduceLT, Nat.reduceLeDiff, Nat.reduceAdd, Nat.reduceEqDiff, Nat.zero_add, Nat.lt_add_one, not_false_eq_true, or_false, false_or, or_self, and_true, true_and, and_self, List.getD_cons_zero, List.getD_cons_succ, Nat.succ_ne_self, reduceCtorEq, ne_eq, List.replicate_zero, List.append_nil, Int.reduceToNat, Nat.zero_lt_succ, Nat.reduceSub, Nat.one_ne_zero, Nat.zero_ne_one]
  refine hT.useL hb1 (by omega) (by omega) fun a o2 ha hb2 => ?_
  simp (disch := first | omega | (simp only [List.length_map, F_len, List.length_append, List.length_cons, List.length_nil] <;> omega)) only [↓vA, uA, Option.bind_some, Option.map_some, Option.bind_none, Option.map_none, List.length_cons, List.length_nil, List.length_map, List.length_append, List.set_cons_zero, List.set_cons_succ, List.set_nil, List.map_cons, List.map_nil, List.cons_append, List.nil_append, List.mem_cons, List.not_mem_nil, Nat.reduceLT, Nat.reduceLeDiff, Nat.reduceAdd, Nat.reduceEqDiff, Nat.zero_add, Nat.lt_add_one, not_false_eq_true, or_false, false_or, or_self, and_true, true_and, and_self, List.getD_cons_zero, List.getD_cons_succ, Nat.succ_ne_self, reduceCtorEq, ne_eq, List.replicate_zero, List.append_nil, Int.reduceToNat, Nat.zero_lt_succ, Nat.reduceSub, Nat.one_ne_zero, Nat.zero_ne_one]
  refine hT.useL hb2 (by omega) (by omega) fun b o3 hb hb3 => ?_
  simp (disch := first | omega | (simp only [List.length_map, F_len, List.length_append, List.length_cons, List.length_nil] <;> omega)) only [↓vA, uA, Option.bind_some, Option.map_some, Option.bind_none, Option.map_none, List.length_cons, List.length_nil, List.length_map, List.length_append, List.set_cons_zero, List.set_cons_succ, List.set_nil, List.map_cons, List.map_nil, List.cons_append, List.nil_append, List.mem_cons, List.not_mem_nil, Nat.reduceLT, Nat.reduceLeDiff, Nat.reduceAdd, Nat.reduceEqDiff, Nat.zero_add, Nat.lt_add_one, not_false_eq_true, or_false, false_or, or_self, and_true, true_and, and_self, List.getD_cons_zero, List.getD_cons_succ, Nat.succ_ne_self, reduceCtorEq, ne_eq, List.replicate_zero, List.append_nil, Int.reduceToNat, Nat.zero_lt_succ, Nat.reduceSub, Nat.one_ne_zero, Nat.zero_ne_one]
  refine v_wBr_dec (fun h => ?_) (fun h => ?_)
  · simp (disch := first | omega | (simp only [List.length_map, F_len, List.length_append, List.length_cons, List.length_nil] <;> omega)) only [↓vA, uA, Option.bind_some, Option.map_some, Option.bind_none, Option.map_none, List.length_cons, List.length_nil, List.length_map, List.length_append, List.set_cons_zero, List.set_cons_succ, List.set_nil, List.map_cons, List.map_nil, List.cons_append, List.nil_append, List.mem_cons, List.not_mem_nil, Nat.reduceLT, Nat.reduceLeDiff, Nat.reduceAdd, Nat.reduceEqDiff, Nat.zero_add, Nat.lt_add_one, not_false_eq_true, or_false, false_or, or_self, and_true, true_and, and_self, List.getD_cons_zero, List.getD_cons_succ, Nat.succ_ne_self, reduceCtorEq, ne_eq, List.replicate_zero, List.append_nil, Int.reduceToNat, Nat.zero_lt_succ, Nat.reduceSub, Nat.one_ne_zero, Nat.zero_ne_one]
    exact ⟨fun _ => a, o3, fun _ => Nat.le_of_lt_succ ha, hb3, rfl, rfl⟩
  · simp (disch := first | omega | (simp only [List.length_map, F_len, List.length_append, List.length_cons, List.length_nil] <;> omega)) only [↓vA, uA, Option.bind_some, Option.map_some, Option.bind_none, Option.map_none, List.length_cons, List.length_nil, List.length_map, List.length_append, List.set_cons_zero, List.set_cons_succ, List.set_nil, List.map_cons, List.map_nil, List.cons_append, List.nil_append, List.mem_cons, List.not_mem_nil, Nat.reduceLT, Nat.reduceLeDiff, Nat.reduceAdd, Nat.reduceEqDiff, Nat.zero_add, Nat.lt_add_one, not_false_eq_true, or_false, false_or, or_self, and_true, true_and, and_self, List.getD_cons_zero, List.getD_cons_succ, Nat.succ_ne_self, reduceCtorEq, ne_eq, List.replicate_zero, List.append_nil, Int.reduceToNat, Nat.zero_lt_succ, Nat.reduceSub, Nat.one_ne_zero, Nat.zero_ne_one]
    refine lc_dr (fun k acc s => ∃ (mk : Nat → Nat) (o : O) (x : Sl), (∀ h, mk h ≤ 9) ∧ BoxOk o ∧ acc = F k (fun h => .int (mk h : Nat)) ∧ s = ⟨[.own o, .val (.int many), .val (.int (form : Nat)), .val (.tup [.int (a : Nat), .int (b : Nat)]), x], st⟩) ?_ ?_ ?_ ?_ ?_
    · exact ⟨fun _ => 0, o3, .no, by simp, hb3, rfl, rfl⟩
    · omega
    · rintro k acc s ⟨_, _, _, _, _, rfl, _⟩
      rw [F_len]; exact Nat.le_refl _
    · rintro k hk acc s ⟨mk, o, x, hmk, hb, rfl, rfl⟩
      simp (disch := first | omega | (simp only [List.length_map, F_len, List.length_append, List.length_cons, List.length_nil] <;> omega)) only [↓vA, uA, Option.bind_some, Option.map_some, Option.bind_none, Option.map_none, List.length_cons, List.length_nil, List.length_map, List.length_append, List.set_cons_zero, List.set_cons_succ, List.set_nil, List.map_cons, List.map_nil, List.cons_append, List.nil_append, List.mem_cons, List.not_mem_nil, Nat.reduceLT, Nat.reduceLeDiff, Nat.reduceAdd, Nat.reduceEqDiff, Nat.zero_add, Nat.lt_add_one, not_false_eq_true, or_false, false_or, or_self, and_true, true_and, and_self, List.getD_cons_zero, List.getD_cons_succ, Nat.succ_ne_self, reduceCtorEq, ne_eq, List.replicate_zero, List.append_nil, Int.reduceToNat, Nat.zero_lt_succ, Nat.reduceSub, Nat.one_ne_zero, Nat.zero_ne_one]
      refine hT.useL hb (by omega) (by omega) fun j o4 hj hb4 => ?_
      have fin : ∀ (v : Nat) (o : O) (x : Sl), v ≤ 9 → BoxOk o → ∃ (mk' : Nat → Nat) (o' : O) (x' : Sl), (∀ h, mk' h ≤ 9) ∧ BoxOk o' ∧ F k (fun h => .int (mk h : Nat)) ++ [.int (v : Nat)] = F (k + 1) (fun h => .int (mk' h : Nat)) ∧ (⟨[.own o, .val (.int many), .val (.int (form : Nat)), .val (.tup [.int (a : Nat), .int (b : Nat)]), x], st⟩ : Sta) = ⟨[.own o', .val (.int many), .val (.int (form : Nat)), .val (.tup [.int (a : Nat), .int (b : Nat)]), x'], st⟩ := by
        intro v o x hv ho
        refine ⟨up mk k v, o, x, fun h => ?_, ho, ?_, rfl⟩
        · unfold up; split
          · exact hv
          · exact hmk h
        · rw [F_app, up_cnt]
      have j01 : j = 0 ∨ j = 1 := by omega
      have f23 : form = 2 ∨ form = 3 := by omega
      rcases j01 with rfl | rfl <;> rcases f23 with rfl | rfl
      all_goals
        simp (disch := first | omega | (simp only [List.length_map, F_len, List.length_append, List.length_cons, List.length_nil] <;> omega)) only [↓vA, uA, Option.bind_some, Option.map_some, Option.bind_none, Option.map_none, List.length_cons, List.length_nil, List.length_map, List.length_append, List.set_cons_zero, List.set_cons_succ, List.set_nil, List.map_cons, List.map_nil, List.cons_append, List.nil_append, List.mem_cons, List.not_mem_nil, Nat.reduceLT, Nat.reduceLeDiff, Nat.reduceAdd, Nat.reduceEqDiff, Nat.zero_add, Nat.lt_add_one, not_false_eq_true, or_false, false_or, or_self, and_true, true_and, and_self, List.getD_cons_zero, List.getD_cons_succ, Nat.succ_ne_self, reduceCtorEq, ne_eq, List.replicate_zero, List.append_nil, Int.reduceToNat, Nat.zero_lt_succ, Nat.reduceSub, Nat.one_ne_zero, Nat.zero_ne_one]
        refine hT.useL hb4 (by omega) (by omega) fun v o5 hv hb5 => ?_
        simp (disch := first | omega | (simp only [List.length_map, F_len, List.length_append, List.length_cons, List.length_nil] <;> omega)) only [↓vA, uA, Option.bind_some, Option.map_some, Option.bind_none, Option.map_none, List.length_cons, List.length_nil, List.length_map, List.length_append, List.set_cons_zero, List.set_cons_succ, List.set_nil, List.map_cons, List.map_nil, List.cons_append, List.nil_append, List.mem_cons, List.not_mem_nil, Nat.reduceLT, Nat.reduceLeDiff, Nat.reduceAdd, Nat.reduceEqDiff, Nat.zero_add, Nat.lt_add_one, not_false_eq_true, or_false, false_or, or_self, and_true, true_and, and_self, List.getD_cons_zero, List.getD_cons_succ, Nat.succ_ne_self, reduceCtorEq, ne_eq, List.replicate_zero, List.append_nil, Int.reduceToNat, Nat.zero_lt_succ, Nat.reduceSub, Nat.one_ne_zero, Nat.zero_ne_one]
        exact fin _ _ _ (by omega) hb5
    · rintro acc s ⟨mk, o, x, hmk, hb, rfl, rfl⟩
      simp (disch := first | omega | (simp only [List.length_map, F_len, List.length_append, List.length_cons, List.length_nil] <;> omega)) only [↓vA, uA, Option.bind_some, Option.map_some, Option.bind_none, Option.map_none, List.length_cons, List.length_nil, List.length_map, List.length_append, List.set_cons_zero, List.set_cons_succ, List.set_nil, List.map_cons, List.map_nil, List.cons_append, List.nil_append, List.mem_cons, List.not_mem_nil, Nat.reduceLT, Nat.reduceLeDiff, Nat.reduceAdd, Nat.reduceEqDiff, Nat.zero_add, Nat.lt_add_one, not_false_eq_true, or_false, false_or, or_self, and_true, true_and, and_self, List.getD_cons_zero, List.getD_cons_succ, Nat.succ_ne_self, reduceCtorEq, ne_eq, List.replicate_zero, List.append_nil, Int.reduceToNat, Nat.zero_lt_succ, Nat.reduceSub, Nat.one_ne_zero, Nat.zero_ne_one]
      exact ⟨mk, o, hmk, hb, rfl, rfl⟩
end NH.DR

set_option Elab.async false
set_option linter.all false
set_option maxRecDepth 100000
set_option maxHeartbeats 1000000
set_option autoImplicit false
namespace NH.DR
open PySem L2
/-! ### the store -/
def OF (n : Nat) (f : Nat → O) : List O := (List.range n).map f
theorem OF_len {n : Nat} {f : Nat → O} : (OF n f).length = n := by simp [OF]
theorem OF_get {n : Nat} {f : Nat → O} {k : Nat} (h : k < n) : (OF n f)[k]? = some (f k) := by simp [OF, h]
theorem OF_ext {n : Nat} {f g : Nat → O} (h : ∀ k, k < n → f k = g k) : OF n f = OF n g := by
  unfold OF
  exact List.map_congr_left fun k hk => h k (List.mem_range.mp hk)
theorem OF_app {n : Nat} {f : Nat → O} {d : O} : OF n f ++ [d] = OF (n + 1) (up f n d) := by
  have : OF (n + 1) (up f n d) = OF n (up f n d) ++ [up f n d n] := by simp [OF, List.range_succ]
  rw [this, up_same]
  congr 1
  exact OF_ext fun k hk => (up_ne (by omega)).symm
theorem OF_set {n : Nat} {f : Nat → O} {k : Nat} {v : O} : (OF n f).set k v = OF n (up f k v) := by
  refine List.ext_getElem? fun j => ?_
  by_cases hj : j < n
  · rw [OF_get hj, List.getElem?_set]
    by_cases e : k = j
    · subst e; rw [up_same]; simp [OF_len, hj]
    · rw [if_neg e, up_ne (Ne.symm e), OF_get hj]
  · rw [List.getElem?_eq_none (by rw [List.length_set, OF_len]; omega), List.getElem?_eq_none (by rw [OF_len]; omega)]
theorem ct_refF {st : List O} {n k : Nat} {f : Nat → O} (h : k < n) : ctOf (st ++ OF n f) (.ref (st.length + k)) = some (.o (f k)) := by
  rw [ctOf_ref, List.getElem?_append_right (by omega), Nat.add_sub_cancel_left, OF_get h]; rfl
theorem putPl_refF {σ : List Sl} {st : List O} {n k : Nat} {f : Nat → O} {o : O} (h : k < n) : putPl (.val (.ref (st.length + k))) o ⟨σ, st ++ OF n f⟩ = some ⟨σ, st ++ OF n (up f k o)⟩ := by
  rw [putPl_ref (by simp [OF_len]; omega), List.set_append_right _ _ (by omega), Nat.add_sub_cancel_left, OF_set]
/-- one of the places of a table otherwise -/
def up2 {α : Type} (f : Nat → Nat → α) (i j : Nat) (v : α) : Nat → Nat → α := fun h p => if h = i ∧ p = j then v else f h p
theorem up_pegs {c : Nat → Nat} {peg : Nat → Nat → End} {i j : Nat} {v : End} : up (fun h => O.lst (F (c h) fun p => pD (peg h p))) i (.lst (F (c i) (up (fun p => pD (peg i p)) j (pD v)))) = fun h => O.lst (F (c h) fun p => pD (up2 peg i j v h p)) := by
  funext h
  unfold up
  split
  · rename_i e; subst e
    congr 2
    funext p
    unfold up2
    split
    · rename_i e; rw [if_pos ⟨rfl, e⟩]
    · rename_i e; rw [if_neg (fun x => e x.2)]
  · rename_i e
    show O.lst _ = _
    congr 2
    funext p
    unfold up2
    rw [if_neg (fun x => e x.1)]
theorem pD_mk {a b : Nat} : D.tup [.int (a : Int), .int (b : Int)] = pD (a, b) := rfl
theorem Marks.use {cal : Cal} (h : Marks cal) {o : O} {many : Nat} {st : List O} {K : Rt → List O → List O → Prop} (ho : BoxOk o) (hw : many ≤ 1000)
    (q : ∀ (mk : Nat → Nat) (o' : O), (∀ h, mk h ≤ 9) → BoxOk o' → K (.new (.lst (rowL many mk))) [o'] st) : vCO (cal "_law_marks" [.own o, .val (.int many)] st) K := by
  refine v_wCO_mono (h o many st ho hw) ?_
  rintro _ _ _ ⟨rfl, k, o', h1, h2, rfl, rfl⟩
  exact q k o' h1 h2
theorem Ties.use {cal : Cal} (h : Ties cal) {o : O} {many room : Nat} {st : List O} {K : Rt → List O → List O → Prop} (ho : BoxOk o) (h1 : 1 ≤ many) (h2 : many ≤ 1000) (h3 : 2 ≤ room) (h4 : room ≤ 1000)
    (q : ∀ cnt T (o' : O), TiesOk many room cnt T → BoxOk o' → K (.val (.tup [.lst (T.map tieD), .lst (rowL many cnt)])) [o'] st) : vCO (cal "_law_ties" [.own o, .val (.int many), .val (.int room)] st) K := by
  refine v_wCO_mono (h o many room st ho h1 h2 h3 h4) ?_
  rintro _ _ _ ⟨rfl, cnt, T, o', h1, h2, rfl, rfl⟩
  exact q cnt T o' h1 h2
/-- a web drawn by itself -/
def PlainWeb (cal : Cal) : Prop := ∀ (o : O) (most room : Nat) (st : List O), BoxOk o → 1 ≤ most → most ≤ 900 → 2 ≤ room → room ≤ 4 →
    vCO (cal "_law_plain_web" [.own o, .val (.int most), .val (.int room)] st) fun r os st' => ∃ l W o', st' = st ++ l ∧ W.Ok ∧ W.n ≤ most ∧ (∀ h, W.deg h ≤ room) ∧ BoxOk o' ∧ r = .val (webD W) ∧ os = [o']
theorem PlainWeb.use {cal : Cal} (h : PlainWeb cal) {o : O} {most room : Nat} {st : List O} {K : Rt → List O → List O → Prop} (ho : BoxOk o) (h1 : 1 ≤ most) (h2 : most ≤ 900) (h3 : 2 ≤ room) (h4 : room ≤ 4)
    (q : ∀ l W (o' : O), W.Ok → W.n ≤ most → (∀ h, W.deg h ≤ room) → BoxOk o' → K (.val (webD W)) [o'] (st ++ l)) : vCO (cal "_law_plain_web" [.own o, .val (.int most), .val (.int room)] st) K := by
  refine v_wCO_mono (h o most room st ho h1 h2 h3 h4) ?_
  rintro _ _ _ ⟨l, W, o', rfl, h1, h2, h3, h4, rfl, rfl⟩
  exact q l W o' h1 h2 h3 h4
theorem plain_law {many room : Nat} {cnt : Nat → Nat} {T : List (End × End)} {num : Nat → Nat → Nat} {peg : Nat → Nat → End} {mk : Nat → Nat} (hm : 1 ≤ many) (hr : room ≤ 4) (ok : TiesOk many room cnt T) (hn : ∀ h, h < many → Prm (cnt h) (num h)) (hmk : ∀ h, mk h ≤ 9)
    (hp : ∀ t ∈ T, peg t.1.1 (num t.1.1 t.1.2) = (t.2.1, num t.2.1 t.2.2) ∧ peg t.2.1 (num t.2.1 t.2.2) = (t.1.1, num t.1.1 t.1.2)) : (Web.mk many mk cnt peg).Ok := by
  refine ⟨hm, fun h _ => hmk h, fun h _ => Nat.le_trans (ok.room h) hr, ?_, ?_⟩
  · intro h hh p hpd
    obtain ⟨s, hs, rfl⟩ := (hn h hh).sur p hpd
    obtain ⟨t, ht, e⟩ := ok.ti.cov h hh s hs
    obtain ⟨⟨a1, a2⟩, a3, a4⟩ := ok.ti.rng t ht
    obtain ⟨q1, q2⟩ := hp t ht
    rcases e with e | e
    · rw [e] at q1 q2
      simp only at q1 q2 ⊢
      rw [q1]
      exact ⟨a3, (hn _ a3).lt _ a4, q2⟩
    · rw [e] at q1 q2
      simp only at q1 q2 ⊢
      rw [q2]
      exact ⟨a1, (hn _ a1).lt _ a2, q1⟩
  · intro h
    induction h using Nat.strongRecOn with
    | ind h ih =>
      intro hh
      by_cases h0 : h = 0
      · subst h0; exact .refl 0
      · obtain ⟨t, ht, e1, e2⟩ := ok.conn h (by omega) hh
        obtain ⟨⟨a1, a2⟩, a3, a4⟩ := ok.ti.rng t ht
        obtain ⟨q1, q2⟩ := hp t ht
        have r := ih t.2.1 e2 a3
        have s := Reach.step (p := num t.2.1 t.2.2) r a3 ((hn _ a3).lt _ a4)
        simp only [q2] at s
        rw [e1] at s
        exact s
theorem plain_run {cal : Cal} (hT : Take cal) (hS : Shuf cal) (hTi : Ties cal) (hM : Marks cal) (o : O) (most room : Nat) (st : List O) (ho : BoxOk o) (h1 : 1 ≤ most) (h2 : most ≤ 900) (h3 : 2 ≤ room) (h4 : room ≤ 4) :
    vCO (runFd cal f_Lplain_web [.own o, .val (.int most), .val (.int room)] st) fun r os st' => ∃ l W o', st' = st ++ l ∧ W.Ok ∧ W.n ≤ most ∧ (∀ h, W.deg h ≤ room) ∧ BoxOk o' ∧ r = .val (webD W) ∧ os = [o'] := by
  refine v_wCO_run ⟨rfl, rfl, by decide⟩ ?_
  show V (denBl cal [0] c_Lplain_web) _ ⟨[.own o, .val (.int most), .val (.int room), .no, .no, .no, .no, .no, .no, .no, .no, .no, .no, .no, .no, .no], st⟩
  unfold c_Lplain_web
  simp (disch := first | omega | (simp only [List.length_map, F_len, List.length_append, List.length_cons, List.length_nil] <;> omega)) only [↓vA, uA, Option.bind_some, Option.map_some, Option.bind_none, Option.map_none, List.length_cons, List.length_nil, List.length_map, List.length_append, List.set_cons_zero, List.set_cons_succ, List.set_nil, List.map_cons, List.map_nil, List.cons_append, List.nil_append, List.mem_cons, List.not_mem_nil, Nat.reduceLT, Nat.reduceLeDiff, Nat.reduceAdd, Nat.reduceEqDiff, Nat.zero_add, Nat.lt_add_one, not_false_eq_true, or_false, false_or, or_self, and_true, true_and, and_self, List.getD_cons_zero, List.getD_cons_succ, Nat.succ_ne_self, reduceCtorEq, ne_eq, List.replicate_zero, List.append_nil, Int.reduceToNat, Nat.zero_lt_succ, Nat.reduceSub, Nat.one_ne_zero, Nat.zero_ne_one, f_Lplain_web]
  refine hT.use ho (by omega) (by omega) fun m o1 hm hb1 => ?_
  simp (disch := first | omega | (simp only [List.length_map, F_len, List.length_append, List.length_cons, List.length_nil] <;> omega)) only [↓vA, uA, Option.bind_some, Option.map_some, Option.bind_none, Option.map_none, List.length_cons, List.length_nil, List.length_map, List.length_append, List.set_cons_zero, List.set_cons_succ, List.set_nil, List.map_cons, List.map_nil, List.cons_append, List.nil_append, List.mem_cons, List.not_mem_nil, Nat.reduceLT, Nat.reduceLeDiff, Nat.reduceAdd, Nat.reduceEqDiff, Nat.zero_add, Nat.lt_add_one, not_false_eq_true, or_false, false_or, or_self, and_true, true_and, and_self, List.getD_cons_zero, List.getD_cons_succ, Nat.succ_ne_self, reduceCtorEq, ne_eq, List.replicate_zero, List.append_nil, Int.reduceToNat, Nat.zero_lt_succ, Nat.reduceSub, Nat.one_ne_zero, Nat.zero_ne_one]
  refine hM.use hb1 (by omega) fun mk o2 hmk hb2 => ?_
  simp (disch := first | omega | (simp only [List.length_map, F_len, List.length_append, List.length_cons, List.length_nil] <;> omega)) only [↓vA, uA, Option.bind_some, Option.map_some, Option.bind_none, Option.map_none, List.length_cons, List.length_nil, List.length_map, List.length_append, List.set_cons_zero, List.set_cons_succ, List.set_nil, List.map_cons, List.map_nil, List.cons_append, List.nil_append, List.mem_cons, List.not_mem_nil, Nat.reduceLT, Nat.reduceLeDiff, Nat.reduceAdd, Nat.reduceEqDiff, Nat.zero_add, Nat.lt_add_one, not_false_eq_true, or_false, false_or, or_self, and_true, true_and, and_self, List.getD_cons_zero, List.getD_cons_succ, Nat.succ_ne_self, reduceCtorEq, ne_eq, List.replicate_zero, List.append_nil, Int.reduceToNat, Nat.zero_lt_succ, Nat.reduceSub, Nat.one_ne_zero, Nat.zero_ne_one]
  refine hTi.use hb2 (by omega) (by omega) (by omega) (by omega) fun cnt T o3 ok hb3 => ?_
  simp (disch := first | omega | (simp only [List.length_map, F_len, List.length_append, List.length_cons, List.length_nil] <;> omega)) only [↓vA, uA, Option.bind_some, Option.map_some, Option.bind_none, Option.map_none, List.length_cons, List.length_nil, List.length_map, List.length_append, List.set_cons_zero, List.set_cons_succ, List.set_nil, List.map_cons, List.map_nil, List.cons_append, List.nil_append, List.mem_cons, List.not_mem_nil, Nat.reduceLT, Nat.reduceLeDiff, Nat.reduceAdd, Nat.reduceEqDiff, Nat.zero_add, Nat.lt_add_one, not_false_eq_true, or_false, false_or, or_self, and_true, true_and, and_self, List.getD_cons_zero, List.getD_cons_succ, Nat.succ_ne_self, reduceCtorEq, ne_eq, List.replicate_zero, List.append_nil, Int.reduceToNat, Nat.zero_lt_succ, Nat.reduceSub, Nat.one_ne_zero, Nat.zero_ne_one, rowL]
  have hl : T.length ≤ 1010 := by have := ok.len; omega
  refine lc_dr (fun k acc s => ∃ (num : Nat → Nat → Nat) (o : O) (x : Sl), (∀ h, h < k → Prm (cnt h) (num h)) ∧ BoxOk o ∧ acc = F k (fun h => .lst (rowL (cnt h) (num h))) ∧ s = ⟨[.own o, .val (.int most), .val (.int room), .val (.int ((1 + m : Nat) : Int)), .val (.lst (F (1 + m) fun k => .int (mk k : Nat))), .no, .no, .val (.lst (T.map tieD)), .val (.lst (F (1 + m) fun k => .int (cnt k : Nat))), x, .no, .no, .no, .no, .no, .no], st⟩) ?_ ?_ ?_ ?_ ?_
  · exact ⟨fun _ _ => 0, o3, .no, fun h hh => by omega, hb3, rfl, rfl⟩
  · omega
  · rintro k acc s ⟨_, _, _, _, _, rfl, _⟩
    rw [F_len]; exact Nat.le_refl _
  · rintro k hk acc s ⟨num, o, x, hn, hb, rfl, rfl⟩
    simp (disch := first | omega | (simp only [List.length_map, F_len, List.length_append, List.length_cons, List.length_nil] <;> omega)) only [↓vA, uA, Option.bind_some, Option.map_some, Option.bind_none, Option.map_none, List.length_cons, List.length_nil, List.length_map, List.length_append, List.set_cons_zero, List.set_cons_succ, List.set_nil, List.map_cons, List.map_nil, List.cons_append, List.nil_append, List.mem_cons, List.not_mem_nil, Nat.reduceLT, Nat.reduceLeDiff, Nat.reduceAdd, Nat.reduceEqDiff, Nat.zero_add, Nat.lt_add_one, not_false_eq_true, or_false, false_or, or_self, and_true, true_and, and_self, List.getD_cons_zero, List.getD_cons_succ, Nat.succ_ne_self, reduceCtorEq, ne_eq, List.replicate_zero, List.append_nil, Int.reduceToNat, Nat.zero_lt_succ, Nat.reduceSub, Nat.one_ne_zero, Nat.zero_ne_one]
    have := ok.room k
    refine hS.use hb (by omega) fun f o' hf hb' => ?_
    simp (disch := first | omega | (simp only [List.length_map, F_len, List.length_append, List.length_cons, List.length_nil] <;> omega)) only [↓vA, uA, Option.bind_some, Option.map_some, Option.bind_none, Option.map_none, List.length_cons, List.length_nil, List.length_map, List.length_append, List.set_cons_zero, List.set_cons_succ, List.set_nil, List.map_cons, List.map_nil, List.cons_append, List.nil_append, List.mem_cons, List.not_mem_nil, Nat.reduceLT, Nat.reduceLeDiff, Nat.reduceAdd, Nat.reduceEqDiff, Nat.zero_add, Nat.lt_add_one, not_false_eq_true, or_false, false_or, or_self, and_true, true_and, and_self, List.getD_cons_zero, List.getD_cons_succ, Nat.succ_ne_self, reduceCtorEq, ne_eq, List.replicate_zero, List.append_nil, Int.reduceToNat, Nat.zero_lt_succ, Nat.reduceSub, Nat.one_ne_zero, Nat.zero_ne_one]
    refine ⟨up num k f, o', _, fun h hh => ?_, hb', ?_, rfl⟩
    · unfold up
      split
      · rename_i e; subst e; exact hf
      · exact hn h (by omega)
    · rw [F_app]
      congr 1
      funext h
      unfold up
      split
      · rename_i e; subst e; rfl
      · rfl
  rintro acc s ⟨num, o, x, hn, hb, rfl, rfl⟩
  simp (disch := first | omega | (simp only [List.length_map, F_len, List.length_append, List.length_cons, List.length_nil] <;> omega)) only [↓vA, uA, Option.bind_some, Option.map_some, Option.bind_none, Option.map_none, List.length_cons, List.length_nil, List.length_map, List.length_append, List.set_cons_zero, List.set_cons_succ, List.set_nil, List.map_cons, List.map_nil, List.cons_append, List.nil_append, List.mem_cons, List.not_mem_nil, Nat.reduceLT, Nat.reduceLeDiff, Nat.reduceAdd, Nat.reduceEqDiff, Nat.zero_add, Nat.lt_add_one, not_false_eq_true, or_false, false_or, or_self, and_true, true_and, and_self, List.getD_cons_zero, List.getD_cons_succ, Nat.succ_ne_self, reduceCtorEq, ne_eq, List.replicate_zero, List.append_nil, Int.reduceToNat, Nat.zero_lt_succ, Nat.reduceSub, Nat.one_ne_zero, Nat.zero_ne_one]
  refine lc_dr (fun k acc s => ∃ (x : Sl), acc = F k (fun h => .ref (st.length + h)) ∧ s = ⟨[.own o, .val (.int most), .val (.int room), .val (.int ((1 + m : Nat) : Int)), .val (.lst (F (1 + m) fun k => .int (mk k : Nat))), .val (.lst (F (1 + m) fun h => .lst (rowL (cnt h) (num h)))), .no, .val (.lst (T.map tieD)), .val (.lst (F (1 + m) fun k => .int (cnt k : Nat))), x, .no, .no, .no, .no, .no, .no], st ++ OF k (fun h => .lst (F (cnt h) fun p => pD (0, 0)))⟩) ?_ ?_ ?_ ?_ ?_
  · exact ⟨.no, rfl, by simp [OF]⟩
  · omega
  · rintro k acc s ⟨_, rfl, _⟩
    rw [F_len]; exact Nat.le_refl _
  · rintro k hk acc s ⟨x, rfl, rfl⟩
    have := ok.room k
    simp (disch := first | omega | (simp only [List.length_map, F_len, List.length_append, List.length_cons, List.length_nil] <;> omega)) only [↓vA, uA, Option.bind_some, Option.map_some, Option.bind_none, Option.map_none, List.length_cons, List.length_nil, List.length_map, List.length_append, List.set_cons_zero, List.set_cons_succ, List.set_nil, List.map_cons, List.map_nil, List.cons_append, List.nil_append, List.mem_cons, List.not_mem_nil, Nat.reduceLT, Nat.reduceLeDiff, Nat.reduceAdd, Nat.reduceEqDiff, Nat.zero_add, Nat.lt_add_one, not_false_eq_true, or_false, false_or, or_self, and_true, true_and, and_self, List.getD_cons_zero, List.getD_cons_succ, Nat.succ_ne_self, reduceCtorEq, ne_eq, List.replicate_zero, List.append_nil, Int.reduceToNat, Nat.zero_lt_succ, Nat.reduceSub, Nat.one_ne_zero, Nat.zero_ne_one]
    have e : st ++ OF k (fun h => O.lst (F (cnt h) fun p => pD (0, 0))) ++ [O.lst (F (cnt k) fun _ => .tup [.int 0, .int 0])] = st ++ OF (k + 1) (fun h => O.lst (F (cnt h) fun p => pD (0, 0))) := by
      rw [List.append_assoc, OF_app]
      congr 2
      funext h
      unfold up
      split
      · rename_i e; subst e; rfl
      · rfl
    rw [e]
    refine ⟨_, ?_, rfl⟩
    · rw [F_app, OF_len]
      congr 1
      funext h
      unfold up
      split
      · rename_i e; subst e; rfl
      · rfl
  rintro acc s ⟨x, rfl, rfl⟩
  simp (disch := first | omega | (simp only [List.length_map, F_len, List.length_append, List.length_cons, List.length_nil] <;> omega)) only [↓vA, uA, Option.bind_some, Option.map_some, Option.bind_none, Option.map_none, List.length_cons, List.length_nil, List.length_map, List.length_append, List.set_cons_zero, List.set_cons_succ, List.set_nil, List.map_cons, List.map_nil, List.cons_append, List.nil_append, List.mem_cons, List.not_mem_nil, Nat.reduceLT, Nat.reduceLeDiff, Nat.reduceAdd, Nat.reduceEqDiff, Nat.zero_add, Nat.lt_add_one, not_false_eq_true, or_false, false_or, or_self, and_true, true_and, and_self, List.getD_cons_zero, List.getD_cons_succ, Nat.succ_ne_self, reduceCtorEq, ne_eq, List.replicate_zero, List.append_nil, Int.reduceToNat, Nat.zero_lt_succ, Nat.reduceSub, Nat.one_ne_zero, Nat.zero_ne_one]
  rw [List.map_map]
  refine for_list (fun t => Itm.v (tieD t)) (fun r s => ∃ (pre : List (End × End)) (peg : Nat → Nat → End) (x10 x11 x12 x13 : Sl), T = pre ++ r ∧ (∀ t ∈ pre, peg t.1.1 (num t.1.1 t.1.2) = (t.2.1, num t.2.1 t.2.2) ∧ peg t.2.1 (num t.2.1 t.2.2) = (t.1.1, num t.1.1 t.1.2)) ∧
      s = ⟨[.own o, .val (.int most), .val (.int room), .val (.int ((1 + m : Nat) : Int)), .val (.lst (F (1 + m) fun k => .int (mk k : Nat))), .val (.lst (F (1 + m) fun h => .lst (rowL (cnt h) (num h)))), .val (.lst (F (1 + m) fun h => .ref (st.length + h))), .val (.lst (T.map tieD)), .val (.lst (F (1 + m) fun k => .int (cnt k : Nat))), .no, x10, x11, x12, x13, .no, .no], st ++ OF (1 + m) (fun h => .lst (F (cnt h) fun p => pD (peg h p)))⟩) ?_ ?_ T _ ?_
  · rintro t r s ⟨pre, peg, x10, x11, x12, x13, hpre, hp, rfl⟩
    have ht : t ∈ T := by rw [hpre]; simp
    obtain ⟨⟨a1, a2⟩, a3, a4⟩ := ok.ti.rng t ht
    have b1 := (hn _ a1).lt _ a2
    have b2 := (hn _ a3).lt _ a4
    simp (disch := first | omega | (simp only [List.length_map, F_len, List.length_append, List.length_cons, List.length_nil] <;> omega)) only [↓v_wOpt_some, ↓v_wOpt_none, ↓v_wIf_true, ↓v_wIf_false, ↓v_W_bindE, ↓v_W_okE, ↓v_W_ok1, ↓v_W_badE, ↓v_kSeq_nx, ↓v_kSeq_rt, ↓v_kSeq_nil, ↓v_wB_nil, ↓v_wB_cons, ↓v_wS_tw, ↓v_wS_tn, ↓v_wS_tt, ↓v_wS_ti, ↓v_wS_par, ↓v_wS_ex, ↓v_wS_ret, ↓v_wBr_true, ↓v_wBr_false, ↓v_wS_ite, ↓v_wBo_on, ↓v_wBo_and, ↓v_wBo_or, ↓v_wS_fr, ↓v_wS_whl, ↓v_wE_non, ↓v_wE_bl, ↓v_wE_int, ↓v_wE_str, ↓v_wE_glo, ↓v_wVar_val, ↓v_wVar_own, ↓v_wE_var, ↓v_wE_tup, ↓v_wE_lst, ↓v_wE_dnewT, ↓v_wE_dnewF, ↓v_W_liftR, ↓v_W_liftO, ↓v_wE_disp, ↓v_W_bin, ↓v_W_cmp, ↓v_W_idx, ↓v_W_slc, ↓v_W_blt, ↓v_W_asInt, ↓v_W_asBl, ↓v_wE_bin, ↓v_wE_neg, ↓v_wE_cmp, ↓v_wE_cmp2, ↓v_wE_boo, ↓v_wB_last, ↓v_wB_more, ↓v_wE_not, ↓v_wE_idx, ↓v_wE_slc, ↓v_wO_no, ↓v_wQ_no, ↓v_wE_fz, ↓v_wE_stt, ↓v_wE_call, ↓v_wE_blt, ↓v_wE_mth, ↓v_W_kindM, ↓v_wD_nil, ↓v_wD_cons, ↓v_wA_nil, ↓v_wA_cons, ↓v_wC_nil, ↓v_wC_mv, ↓v_wC_mw, ↓v_W_newO, ↓v_wI_rng, ↓v_wI_seq, ↓v_wI_enum, ↓v_wI_zip, ↓v_wI_str, ↓v_wG_tn, ↓v_wG_ttv, ↓v_wG_ttp, ↓v_wT_tn, ↓v_wT_tt, ↓v_wT_ti, ↓v_wTs_nil, ↓v_wTs_cons, ↓v_W_setSlot, ↓v_W_setW_new, ↓v_W_setW_val, ↓v_wWs_nil, ↓v_wWs_cons, ↓v_W_frz_val, ↓v_W_frz_new, ↓v_wFrz_own, ↓v_wFrz_val, ↓v_W_frz_slot, ↓v_W_alloc, ↓v_W_takeOwn, ↓v_W_setPl, ↓v_W_setItem, ↓v_wCO_ok, ↓v_W_doCall, ↓v_wE_lc, ↓v_wC_non, ↓v_wO_non, ↓v_wQ_non, ↓v_wC_bl, ↓v_wO_bl, ↓v_wQ_bl, ↓v_wC_int, ↓v_wO_int, ↓v_wQ_int, ↓v_wC_str, ↓v_wO_str, ↓v_wQ_str, ↓v_wC_var, ↓v_wO_var, ↓v_wQ_var, ↓v_wC_glo, ↓v_wO_glo, ↓v_wQ_glo, ↓v_wC_tup, ↓v_wO_tup, ↓v_wQ_tup, ↓v_wC_lst, ↓v_wO_lst, ↓v_wQ_lst, ↓v_wC_dnew, ↓v_wO_dnew, ↓v_wQ_dnew, ↓v_wC_disp, ↓v_wO_disp, ↓v_wQ_disp, ↓v_wC_bin, ↓v_wO_bin, ↓v_wQ_bin, ↓v_wC_neg, ↓v_wO_neg, ↓v_wQ_neg, ↓v_wC_cmp, ↓v_wO_cmp, ↓v_wQ_cmp, ↓v_wC_cmp2, ↓v_wO_cmp2, ↓v_wQ_cmp2, ↓v_wC_boo, ↓v_wO_boo, ↓v_wQ_boo, ↓v_wC_not, ↓v_wO_not, ↓v_wQ_not, ↓v_wC_idx, ↓v_wO_idx, ↓v_wQ_idx, ↓v_wC_slc, ↓v_wO_slc, ↓v_wQ_slc, ↓v_wC_lc, ↓v_wO_lc, ↓v_wQ_lc, ↓v_wC_fz, ↓v_wO_fz, ↓v_wQ_fz, ↓v_wC_stt, ↓v_wO_stt, ↓v_wQ_stt, ↓v_wC_call, ↓v_wO_call, ↓v_wQ_call, ↓v_wC_blt, ↓v_wO_blt, ↓v_wQ_blt, ↓v_wC_mth, ↓v_wO_mth, ↓v_wQ_mth, ↓v_W_append, ↓v_W_extend, ↓v_W_pop0, ↓v_W_pop1, ↓v_W_clear, ↓v_W_index, ↓v_W_get, ↓v_W_count, ctOf_non, ctOf_bl, ctOf_int, ctOf_str, ctOf_tup, ctOf_klst, ctOf_lst, derefSl_own, derefSl_val, deref_val, deref_new, deref_slot, derefs_nil, derefs_cons, lk0, lkS, bin_add, bin_sub, bin_mul, bin_mod, bin_fdiv, bin_catT, bin_catL, bin_rep, cmp_lt, cmp_le, cmp_gt, cmp_ge, cmp_eqI, cmp_neI, cmp_eqB, cmp_neB, isn_bl, notn_bl, mthT_count, mthT_countT, ask_count, isn_non, isn_tup, isn_int, notn_non, notn_tup, notn_int, cast_add, cast_addL, cast_addR, cast_mul, cast_mulR, cast_mod, cast_modL, cast_div, cast_divL, cast_sub, cast_subL, cast_lt, cast_le, cast_eq, cast_ltL, cast_ltR, cast_leL, cast_leR, cast_eqL, atI_nat, atI_lit, ixN_nat, ixN_lit, idx_lst, idx_tup, idx_klst, idx_dk, idx_dt, keyOf_int, keyOf_str, tkeyOf_two, len_lst, len_tup, len_klst, len_dk, slc_lst, slc_tup, slc_klst, cut_hi, cut_hiL, cut_lo, intCt_int, blt_1, blt_2, b_len, b_tupL, b_tupT, b_lstL, b_lstT, b_intI, b_intB, b_maxN, b_minN, b_maxL, b_minL, F_len, F_get, F_mapv, F_enum, F_zip, F_rep, F_set, rng_1, rng_1L, rng_2, rng_2L, b_lrange, b_trange, items_tup, items_lst, items_klst, both_tt, both_ll, setO_lst, setO_dk, setO_dt, mut_append, mut_extend, mut_pop1, mthT_append, mthT_extend, mthT_pop0, mthT_pop1, mthT_clear, mthT_index, mthT_indexT, mthT_getK, mthT_getT, ask_index, ask_get, get_dk, get_dt, backO_nil, backO_cons, rOf_val, rOf_new, endR_val, endR_new, endSl_own, endSl_val, endR_s0, endR_s1, outs_nil, outs_cons, wipe_nil, wipe_cons, back_nil, back_cons, ownO_own, slPut_own, slPut_ref, putPl_slot, objO_o, blR_val, kTurn_nx, kTurn_rt, Option.bind_some, Option.map_some, Option.bind_none, Option.map_none, List.length_cons, List.length_nil, List.length_map, List.length_append, List.set_cons_zero, List.set_cons_succ, List.set_nil, List.map_cons, List.map_nil, List.cons_append, List.nil_append, List.mem_cons, List.not_mem_nil, Nat.reduceLT, Nat.reduceLeDiff, Nat.reduceAdd, Nat.reduceEqDiff, Nat.zero_add, Nat.lt_add_one, not_false_eq_true, or_false, false_or, or_self, and_true, true_and, and_self, List.getD_cons_zero, List.getD_cons_succ, Nat.succ_ne_self, reduceCtorEq, ne_eq, List.replicate_zero, List.append_nil, Int.reduceToNat, Nat.zero_lt_succ, Nat.reduceSub, Nat.one_ne_zero, Nat.zero_ne_one, tieD, items_p, rowL, ct_refF, putPl_refF, pD_mk, up_pegs]
    refine ⟨pre ++ [t], _, _, _, _, _, by rw [hpre]; simp, ?_, rfl⟩
    intro u hu
    rcases List.mem_append.mp hu with hu | hu
    · obtain ⟨p1, p2⟩ := hp u hu
      have hd := ok.ti.dis
      rw [hpre, List.pairwise_append] at hd
      obtain ⟨d1, d2, d3, d4⟩ := hd.2.2 u hu t (by simp)
      have hu2 : u ∈ T := by rw [hpre]; exact List.mem_append_left _ hu
      obtain ⟨⟨c1, c2⟩, c3, c4⟩ := ok.ti.rng u hu2
      have ne : ∀ (a b : End), a.1 < 1 + m → a.2 < cnt a.1 → b.1 < 1 + m → b.2 < cnt b.1 → a ≠ b → ¬ (a.1 = b.1 ∧ num a.1 a.2 = num b.1 b.2) := by
        rintro ⟨a, b⟩ ⟨c, d⟩ h1 h2 h3 h4 hne ⟨e1, e2⟩
        simp only at e1 e2 h1 h2 h3 h4
        subst e1
        exact hne (by rw [(hn _ h1).inj _ h2 _ h4 e2])
      unfold up2
      rw [if_neg (ne u.1 t.2 c1 c2 a3 a4 d2), if_neg (ne u.1 t.1 c1 c2 a1 a2 d1), if_neg (ne u.2 t.2 c3 c4 a3 a4 d4), if_neg (ne u.2 t.1 c3 c4 a1 a2 d3)]
      exact ⟨p1, p2⟩
    · rw [List.mem_singleton.mp hu]
      unfold up2
      constructor
      · split
        · rename_i e
          by_cases h12 : t.1 = t.2
          · rw [h12]
          · exact (by
              have : t.1.1 = t.2.1 := e.1
              have e2 := e.2
              rw [this] at e2 a2
              have := (hn _ a3).inj _ a2 _ a4 e2
              exact (h12 (Prod.ext e.1 this)).elim)
        · rw [if_pos ⟨rfl, rfl⟩]
      · rw [if_pos ⟨rfl, rfl⟩]
  · rintro s ⟨pre, peg, x10, x11, x12, x13, hpre, hp, rfl⟩
    rw [List.append_nil] at hpre
    subst hpre
    simp (disch := first | omega | (simp only [List.length_map, F_len, List.length_append, List.length_cons, List.length_nil] <;> omega)) only [↓vA, uA, Option.bind_some, Option.map_some, Option.bind_none, Option.map_none, List.length_cons, List.length_nil, List.length_map, List.length_append, List.set_cons_zero, List.set_cons_succ, List.set_nil, List.map_cons, List.map_nil, List.cons_append, List.nil_append, List.mem_cons, List.not_mem_nil, Nat.reduceLT, Nat.reduceLeDiff, Nat.reduceAdd, Nat.reduceEqDiff, Nat.zero_add, Nat.lt_add_one, not_false_eq_true, or_false, false_or, or_self, and_true, true_and, and_self, List.getD_cons_zero, List.getD_cons_succ, Nat.succ_ne_self, reduceCtorEq, ne_eq, List.replicate_zero, List.append_nil, Int.reduceToNat, Nat.zero_lt_succ, Nat.reduceSub, Nat.one_ne_zero, Nat.zero_ne_one, Nat.min_self]
    refine lc_map (fun h => handD ⟨1 + m, mk, cnt, peg⟩ h) ?_ (fun k hk => ?_) ?_
    · omega
    · simp (disch := first | omega | (simp only [List.length_map, F_len, List.length_append, List.length_cons, List.length_nil] <;> omega)) only [↓vA, uA, Option.bind_some, Option.map_some, Option.bind_none, Option.map_none, List.length_cons, List.length_nil, List.length_map, List.length_append, List.set_cons_zero, List.set_cons_succ, List.set_nil, List.map_cons, List.map_nil, List.cons_append, List.nil_append, List.mem_cons, List.not_mem_nil, Nat.reduceLT, Nat.reduceLeDiff, Nat.reduceAdd, Nat.reduceEqDiff, Nat.zero_add, Nat.lt_add_one, not_false_eq_true, or_false, false_or, or_self, and_true, true_and, and_self, List.getD_cons_zero, List.getD_cons_succ, Nat.succ_ne_self, reduceCtorEq, ne_eq, List.replicate_zero, List.append_nil, Int.reduceToNat, Nat.zero_lt_succ, Nat.reduceSub, Nat.one_ne_zero, Nat.zero_ne_one, ct_refF]
      rfl
    simp (disch := first | omega | (simp only [List.length_map, F_len, List.length_append, List.length_cons, List.length_nil] <;> omega)) only [↓vA, uA, Option.bind_some, Option.map_some, Option.bind_none, Option.map_none, List.length_cons, List.length_nil, List.length_map, List.length_append, List.set_cons_zero, List.set_cons_succ, List.set_nil, List.map_cons, List.map_nil, List.cons_append, List.nil_append, List.mem_cons, List.not_mem_nil, Nat.reduceLT, Nat.reduceLeDiff, Nat.reduceAdd, Nat.reduceEqDiff, Nat.zero_add, Nat.lt_add_one, not_false_eq_true, or_false, false_or, or_self, and_true, true_and, and_self, List.getD_cons_zero, List.getD_cons_succ, Nat.succ_ne_self, reduceCtorEq, ne_eq, List.replicate_zero, List.append_nil, Int.reduceToNat, Nat.zero_lt_succ, Nat.reduceSub, Nat.one_ne_zero, Nat.zero_ne_one]
    exact ⟨_, ⟨1 + m, mk, cnt, peg⟩, o, rfl, plain_law (by omega) h4 ok hn hmk hp, by simp only; omega, ok.room, hb, rfl, rfl⟩
  · exact ⟨[], fun _ _ => (0, 0), _, _, _, _, rfl, by simp, rfl⟩
end NH.DR

set_option Elab.async false
set_option linter.all false
set_option maxRecDepth 100000
set_option maxHeartbeats 1000000
set_option autoImplicit false
namespace NH.DR
open PySem L2
/-! ### data that == may look at -/
inductive Std : Nat → D → Prop
  | non {n : Nat} : Std n .non
  | int {n : Nat} {i : Int} : Std n (.int i)
  | tup {n : Nat} {xs : List D} : (∀ x ∈ xs, Std n x) → Std (n + 1) (.tup xs)
  | lst {n : Nat} {xs : List D} : (∀ x ∈ xs, Std n x) → Std (n + 1) (.lst xs)
theorem std_pures {xs : List D} (h : ∀ x ∈ xs, x.pure = true) : D.pures xs = true := by
  induction xs with
  | nil => rfl
  | cons x xs ih =>
    unfold D.pures
    rw [h x (by simp), ih fun y hy => h y (by simp [hy])]; rfl
theorem std_lays {xs : List D} (h : ∀ x ∈ xs, x.py.canLay0 = true) : PyData.canLayAll0 (D.pys xs) = true := by
  induction xs with
  | nil => rfl
  | cons x xs ih =>
    unfold D.pys
    rw [PyData.canLayAll0.eq_2, h x (by simp), ih fun y hy => h y (by simp [hy])]; rfl
theorem std_depths {xs : List D} {n : Nat} (h : ∀ x ∈ xs, x.py.depth ≤ n) : PyData.depthAll (D.pys xs) ≤ n := by
  induction xs with
  | nil => simp [D.pys, PyData.depthAll]
  | cons x xs ih =>
    unfold D.pys
    rw [PyData.depthAll.eq_2]
    exact Nat.max_le.mpr ⟨h x (by simp), ih fun y hy => h y (by simp [hy])⟩
theorem Std.all {n : Nat} {d : D} (h : Std n d) : d.pure = true ∧ d.py.canLay0 = true ∧ d.py.depth ≤ n := by
  induction h with
  | non => simp [D.pure, D.py, PyData.canLay0, PyData.depth]
  | int => simp [D.pure, D.py, PyData.canLay0, PyData.depth]
  | tup _ ih =>
    refine ⟨?_, ?_, ?_⟩
    · unfold D.pure; exact std_pures fun x hx => (ih x hx).1
    · unfold D.py; rw [PyData.canLay0]; exact std_lays fun x hx => (ih x hx).2.1
    · unfold D.py; rw [PyData.depth]; have := std_depths fun x hx => (ih x hx).2.2; omega
  | lst _ ih =>
    refine ⟨?_, ?_, ?_⟩
    · unfold D.pure; exact std_pures fun x hx => (ih x hx).1
    · unfold D.py; rw [PyData.canLay0]; exact std_lays fun x hx => (ih x hx).2.1
    · unfold D.py; rw [PyData.depth]; have := std_depths fun x hx => (ih x hx).2.2; omega
theorem Std.eqOk {n : Nat} {d : D} (h : Std n d) (hn : n ≤ 64) : d.eqOk = true := by
  obtain ⟨h1, h2, h3⟩ := h.all
  unfold D.eqOk SeqAt.shaped
  rw [h1, h2]
  simp; omega
theorem Std.mono {n m : Nat} {d : D} (h : Std n d) (hm : n ≤ m) : Std m d := by
  induction h generalizing m with
  | non => exact .non
  | int => exact .int
  | @tup n xs _ ih =>
    obtain ⟨k, rfl⟩ : ∃ k, m = k + 1 := ⟨m - 1, by omega⟩
    exact .tup fun x hx => ih x hx (by omega)
  | @lst n xs _ ih =>
    obtain ⟨k, rfl⟩ : ∃ k, m = k + 1 := ⟨m - 1, by omega⟩
    exact .lst fun x hx => ih x hx (by omega)
theorem eqbs_iff {xs : List D} (ih : ∀ x ∈ xs, ∀ (e : D) (m : Nat), Std m e → (x.eqb e = true ↔ x = e)) : ∀ (ys : List D) (m : Nat), (∀ y ∈ ys, Std m y) → (D.eqbs xs ys = true ↔ xs = ys) := by
  induction xs with
  | nil =>
    intro ys m hy
    cases ys with
    | nil => simp [D.eqbs]
    | cons y ys => simp [D.eqbs]
  | cons x xs ihx =>
    intro ys m hy
    cases ys with
    | nil => simp [D.eqbs]
    | cons y ys =>
      rw [D.eqbs, Bool.and_eq_true, ih x (by simp) y m (hy y (by simp)), ihx (fun z hz => ih z (by simp [hz])) ys m (fun z hz => hy z (by simp [hz]))]
      simp
theorem Std.eqb {n : Nat} {d : D} (h : Std n d) : ∀ (e : D) (m : Nat), Std m e → (d.eqb e = true ↔ d = e) := by
  induction h with
  | non => intro e m he; cases he <;> simp [D.eqb]
  | int => intro e m he; cases he <;> simp [D.eqb]
  | tup _ ih =>
    intro e m he
    cases he with
    | non => simp [D.eqb]
    | int => simp [D.eqb]
    | lst _ => simp [D.eqb]
    | tup hy => rw [D.eqb, eqbs_iff ih _ _ hy]; simp
  | lst _ ih =>
    intro e m he
    cases he with
    | non => simp [D.eqb]
    | int => simp [D.eqb]
    | tup _ => simp [D.eqb]
    | lst hy => rw [D.eqb, eqbs_iff ih _ _ hy]; simp
theorem std_F {n m : Nat} {f : Nat → D} (h : ∀ k, k < n → Std m (f k)) : ∀ x ∈ F n f, Std m x := by
  intro x hx
  unfold F at hx
  obtain ⟨k, hk, rfl⟩ := List.mem_map.mp hx
  exact h k (List.mem_range.mp hk)
theorem std_map {α : Type} {m : Nat} {f : α → D} {xs : List α} (h : ∀ k, Std m (f k)) : ∀ x ∈ xs.map f, Std m x := by
  intro x hx
  obtain ⟨k, hk, rfl⟩ := List.mem_map.mp hx
  exact h k
theorem std_p {e : End} : Std 1 (pD e) := .tup fun x hx => by
  simp only [List.mem_cons, List.not_mem_nil, or_false] at hx
  rcases hx with rfl | rfl <;> exact .int
theorem std_pegs {W : Web} {h : Nat} : Std 2 (pegsD W h) := .tup (std_F fun _ _ => std_p)
theorem std_hand {W : Web} {h : Nat} : Std 3 (handD W h) := .tup fun x hx => by
  simp only [List.mem_cons, List.not_mem_nil, or_false] at hx
  rcases hx with rfl | rfl
  · exact .int
  · exact std_pegs
theorem std_web {W : Web} : Std 4 (webD W) := .tup (std_F fun _ _ => std_hand)
theorem pD_inj {a b : End} (h : pD a = pD b) : a = b := by
  unfold pD at h
  injection h with h
  injection h with h1 h
  injection h with h2 _
  injection h1 with h1
  injection h2 with h2
  exact Prod.ext (by omega) (by omega)
theorem eqb_p {a b : End} : (pD a).eqb (pD b) = decide (a = b) := by
  by_cases h : a = b
  · rw [decide_eq_true h, h]; exact (std_p.eqb _ 1 std_p).mpr rfl
  · rw [decide_eq_false h]
    cases e : (pD a).eqb (pD b) with
    | false => rfl
    | true => exact (h (pD_inj ((std_p.eqb _ 1 std_p).mp e))).elim
theorem cmp_eqP {a b : End} : cmpCt .eq (.d (pD a)) (.d (pD b)) = some (decide (a = b)) := by
  rw [cmp_eq (std_p.eqOk (by decide)) (std_p.eqOk (by decide)) rfl rfl, eqb_p]
theorem cmp_ltP {a b : End} : cmpCt .lt (.d (pD a)) (.d (pD b)) = some (decide (a.1 < b.1 ∨ (a.1 = b.1 ∧ a.2 < b.2))) := by
  simp only [cmpCt, pD, ltCt, intsOf, Option.map_some, Option.bind_some, HT.lexLt_cons, HT.lexLt_nil_nil]
  by_cases h : a.1 = b.1
  · rw [if_pos (by omega)]
    by_cases h2 : a.2 = b.2
    · rw [if_pos (by omega)]; simp [h, h2]
    · rw [if_neg (by omega)]; simp [h]
  · rw [if_neg (by omega)]; simp [h]
theorem in_pairs {e : End} {xs : List End} : inCt (.d (pD e)) (.o (.lst (xs.map pD))) = some (decide (e ∈ xs)) := by
  have h1 : (pD e).eqOk = true := std_p.eqOk (by decide)
  have h2 : (D.lst (xs.map pD)).eqOk = true := (Std.lst (std_map fun _ => std_p)).eqOk (by decide)
  have : inCt (.d (pD e)) (.o (.lst (xs.map pD))) = if (pD e).eqOk && (D.lst (xs.map pD)).eqOk then some ((xs.map pD).any fun z => z.eqb (pD e)) else none := rfl
  rw [this, h1, h2]
  simp only [Bool.and_true, if_true, Option.some.injEq, List.any_map, Function.comp_def, eqb_p]
  by_cases h : e ∈ xs
  · rw [decide_eq_true h]; simp; exact h
  · rw [decide_eq_false h]; simp; intro x y h3 h4; exact h (h4 ▸ h3)
theorem cmp_in {c d : Ct} : cmpCt .isin c d = inCt c d := rfl
theorem cmp_notin {c d : Ct} : cmpCt .notin c d = (inCt c d).map (!·) := rfl
theorem findIdx_map {α : Type} [DecidableEq α] [BEq α] [LawfulBEq α] {xs : List α} {f : α → D} {e : α} {p : D → Bool} (hp : ∀ x, p (f x) = decide (x = e)) (h : e ∈ xs) : (xs.map f).findIdx? p = some (xs.idxOf e) := by
  induction xs with
  | nil => simp at h
  | cons x xs ih =>
    rw [List.map_cons, List.findIdx?_cons, hp]
    by_cases hx : x = e
    · subst hx; simp
    · have : e ∈ xs := by
        rcases List.mem_cons.mp h with h | h
        · exact (hx h.symm).elim
        · exact h
      have hb : (x == e) = false := by simpa using hx
      rw [decide_eq_false hx, ih this, List.idxOf_cons, hb]
      rfl
theorem index_pairs {e : End} {xs : List End} (h : e ∈ xs) : idxOf (.o (.lst (xs.map pD))) (pD e) = some (xs.idxOf e) := by
  have h1 : (pD e).eqOk = true := std_p.eqOk (by decide)
  have h2 : (D.lst (xs.map pD)).eqOk = true := (Std.lst (std_map fun _ => std_p)).eqOk (by decide)
  have : idxOf (.o (.lst (xs.map pD))) (pD e) = if (pD e).eqOk && (D.lst (xs.map pD)).eqOk then (xs.map pD).findIdx? fun z => z.eqb (pD e) else none := rfl
  rw [this, h1, h2]
  simp only [Bool.and_true, if_true]
  exact findIdx_map (f := pD) (p := fun z => z.eqb (pD e)) (fun x => eqb_p) h
/-! ### numbers turned about -/
def inv (n : Nat) (f : Nat → Nat) (j : Nat) : Nat := ((List.range n).map f).idxOf j
theorem Prm.inv_lt {n : Nat} {f : Nat → Nat} (h : Prm n f) {j : Nat} (hj : j < n) : inv n f j < n := by
  obtain ⟨i, hi, e⟩ := h.sur j hj
  have : j ∈ (List.range n).map f := List.mem_map.mpr ⟨i, List.mem_range.mpr hi, e⟩
  have := List.idxOf_lt_length_of_mem this
  unfold DR.inv
  simpa using this
theorem Prm.f_inv {n : Nat} {f : Nat → Nat} (h : Prm n f) {j : Nat} (hj : j < n) : f (inv n f j) = j := by
  have h1 := h.inv_lt hj
  have : ((List.range n).map f)[inv n f j]'(by simpa using h1) = j := List.getElem_idxOf (by unfold DR.inv at h1; simpa using h1)
  simpa using this
theorem Prm.inv_f {n : Nat} {f : Nat → Nat} (h : Prm n f) {i : Nat} (hi : i < n) : inv n f (f i) = i :=
  h.inj _ (h.inv_lt (h.lt i hi)) _ hi (h.f_inv (h.lt i hi))
theorem Prm.inv {n : Nat} {f : Nat → Nat} (h : Prm n f) : Prm n (inv n f) :=
  ⟨fun k hk => h.inv_lt hk, fun i hi j hj e => by rw [← h.f_inv hi, ← h.f_inv hj, e], fun j hj => ⟨f j, h.lt j hj, h.inv_f hj⟩⟩
theorem Prm.id {n : Nat} : Prm n fun k => k := ⟨fun _ h => h, fun _ _ _ _ h => h, fun j hj => ⟨j, hj, rfl⟩⟩
theorem eqb_int {i j : Int} : (D.int i).eqb (.int j) = decide (i = j) := by
  simp only [D.eqb]; by_cases h : i = j <;> simp [h]
theorem index_row {n : Nat} {f : Nat → Nat} (h : Prm n f) {j : Nat} (hj : j < n) : idxOf (.o (.lst (rowL n f))) (.int (j : Nat)) = some (DR.inv n f j) := by
  have h1 : (D.int (j : Nat)).eqOk = true := eqOk_int
  have h2 : (D.lst (rowL n f)).eqOk = true := (Std.lst (n := 0) (std_F fun _ _ => .int)).eqOk (by decide)
  have : idxOf (.o (.lst (rowL n f))) (.int (j : Nat)) = if (D.int (j : Nat)).eqOk && (D.lst (rowL n f)).eqOk then (rowL n f).findIdx? fun z => z.eqb (.int (j : Nat)) else none := rfl
  rw [this, h1, h2]
  simp only [Bool.and_true, if_true]
  have e : rowL n f = ((List.range n).map f).map fun k => .int (k : Nat) := by unfold rowL F; rw [List.map_map]; rfl
  rw [e]
  refine findIdx_map (fun x => ?_) ?_
  · rw [eqb_int]; congr 1; exact cast_eq
  · obtain ⟨i, hi, e⟩ := h.sur j hj
    exact List.mem_map.mpr ⟨i, List.mem_range.mpr hi, e⟩
theorem index_rowT {n : Nat} {f : Nat → Nat} (h : Prm n f) {j : Nat} (hj : j < n) : idxOf (.d (.tup (rowL n f))) (.int (j : Nat)) = some (DR.inv n f j) := by
  have h2 : (rowL n f).all D.flat = true := by
    rw [List.all_eq_true]
    intro x hx
    obtain ⟨k, _, rfl⟩ := List.mem_map.mp hx
    rfl
  have : idxOf (.d (.tup (rowL n f))) (.int (j : Nat)) = if (D.int (j : Nat)).flat && (rowL n f).all D.flat then (rowL n f).findIdx? fun z => z.eqb (.int (j : Nat)) else none := rfl
  rw [this, h2]
  simp only [D.flat, Bool.and_true, if_true]
  have e : rowL n f = ((List.range n).map f).map fun k => .int (k : Nat) := by unfold rowL F; rw [List.map_map]; rfl
  rw [e]
  refine findIdx_map (fun x => ?_) ?_
  · rw [eqb_int]; congr 1; exact cast_eq
  · obtain ⟨i, hi, e⟩ := h.sur j hj
    exact List.mem_map.mpr ⟨i, List.mem_range.mpr hi, e⟩
/-! ### called anew -/
def ren (W : Web) (f : Nat → Nat) : Web := ⟨W.n, fun h => W.mark (inv W.n f h), fun h => W.deg (inv W.n f h), fun h p => (f (W.to (inv W.n f h) p).1, (W.to (inv W.n f h) p).2)⟩
/-- a leading -/
structure Lead (W V : Web) (f : Nat → Nat) : Prop where
  lt : ∀ h, h < W.n → f h < V.n
  mark : ∀ h, h < W.n → V.mark (f h) = W.mark h
  deg : ∀ h, h < W.n → V.deg (f h) = W.deg h
  to : ∀ h, h < W.n → ∀ p, p < W.deg h → V.to (f h) p = (f (W.to h p).1, (W.to h p).2)
theorem ren_ok {W : Web} {f : Nat → Nat} (ok : W.Ok) (hf : Prm W.n f) : (ren W f).Ok := by
  have reach : ∀ a b, a < W.n → Reach W a b → Reach (ren W f) (f a) (f b) := by
    intro a b ha r
    induction r with
    | refl => exact .refl _
    | @step b p r hb hp ih =>
      have e : ((ren W f).to (f b) p).1 = f (W.to b p).1 := by simp only [ren, hf.inv_f hb]
      rw [← e]
      exact .step ih (hf.lt b hb) (by simp only [ren, hf.inv_f hb]; exact hp)
  have zero : ∀ h, h < W.n → ∀ a, Reach W 0 a → a < W.n := by
    intro h _ a r
    induction r with
    | refl => exact ok.pos
    | step r hb hp _ => exact (ok.tie _ hb _ hp).1
  have back : ∀ h, h < W.n → Reach (ren W f) (f h) (f 0) := by
    intro h hh
    have : ∀ a b, Reach W a b → a < W.n → b < W.n ∧ ∀ c, Reach (ren W f) (f a) c → Reach (ren W f) (f b) c := by
      intro a b r ha
      induction r with
      | refl => exact ⟨ha, fun c h => h⟩
      | @step b p r hb hp ih =>
        obtain ⟨t1, t2, t3⟩ := ok.tie b hb p hp
        refine ⟨t1, fun c hc => ?_⟩
        have hbc := ih.2 c hc
        have one : Reach (ren W f) (f (W.to b p).1) (f b) := by
          have s := Reach.step (W := ren W f) (p := (W.to b p).2) (.refl (f (W.to b p).1)) (hf.lt _ t1) (by simp only [ren, hf.inv_f t1]; exact t2)
          simp only [ren, hf.inv_f t1, t3] at s
          exact s
        have tr : ∀ x y z, Reach (ren W f) x y → Reach (ren W f) y z → Reach (ren W f) x z := by
          intro x y z h1 h2
          induction h2 with
          | refl => exact h1
          | step r h1 h2 ih => exact .step ih h1 h2
        exact tr _ _ _ one hbc
    exact (this 0 h (ok.conn h hh) ok.pos).2 _ (.refl _)
  have tr : ∀ x y z, Reach (ren W f) x y → Reach (ren W f) y z → Reach (ren W f) x z := by
    intro x y z h1 h2
    induction h2 with
    | refl => exact h1
    | step r h1 h2 ih => exact .step ih h1 h2
  refine ⟨ok.pos, fun h hh => ok.mrk _ (hf.inv_lt hh), fun h hh => ok.dg _ (hf.inv_lt hh), fun h hh p hp => ?_, fun h hh => ?_⟩
  · simp only [ren] at hp hh ⊢
    obtain ⟨t1, t2, t3⟩ := ok.tie _ (hf.inv_lt hh) p hp
    rw [hf.inv_f t1]
    refine ⟨hf.lt _ t1, t2, ?_⟩
    rw [t3]
    simp only [hf.f_inv hh]
  · have hh' : h < W.n := hh
    have i0 : DR.inv W.n f 0 < W.n := hf.inv_lt ok.pos
    have r1 := back _ i0
    rw [hf.f_inv ok.pos] at r1
    have r2 := reach 0 _ ok.pos (ok.conn _ (hf.inv_lt hh'))
    rw [hf.f_inv hh'] at r2
    exact tr _ _ _ r1 r2
theorem lead_ren {W V : Web} {f g : Nat → Nat} (ok : W.Ok) (hf : Prm W.n f) (hg : Lead W V g) : Lead (ren W f) V (fun h => g (inv W.n f h)) := by
  refine ⟨fun h hh => hg.lt _ (hf.inv_lt hh), fun h hh => hg.mark _ (hf.inv_lt hh), fun h hh => hg.deg _ (hf.inv_lt hh), fun h hh p hp => ?_⟩
  simp only [ren] at hh hp ⊢
  obtain ⟨t1, t2, t3⟩ := ok.tie _ (hf.inv_lt hh) p hp
  rw [hg.to _ (hf.inv_lt hh) p hp, hf.inv_f t1]
def Renamed (cal : Cal) (x : Str) : Prop := ∀ (W : Web) (f : Nat → Nat) (d : D) (st : List O), W.Ok → Prm W.n f → W.n ≤ 10000 → (d = .lst (rowL W.n f) ∨ d = .tup (rowL W.n f)) →
    cal x [.val (webD W), .val d] st = .ok (.val (webD (ren W f))) [] st
theorem vCO_eq {c : CO} {r : Rt} {os st : List O} (h : vCO c fun r' os' st' => r' = r ∧ os' = os ∧ st' = st) : c = .ok r os st := by
  cases c with
  | bad => exact h.elim
  | ok r' os' st' => obtain ⟨rfl, rfl, rfl⟩ := h; rfl
theorem renamed_run (cal : Cal) (W : Web) (f : Nat → Nat) (d : D) (st : List O) (ok : W.Ok) (hf : Prm W.n f) (hn : W.n ≤ 10000) (hd : d = .lst (rowL W.n f) ∨ d = .tup (rowL W.n f)) :
    runFd cal f_Lrenamed [.val (webD W), .val d] st = .ok (.val (webD (ren W f))) [] st := by
  refine vCO_eq (v_wCO_run ⟨rfl, rfl, by decide⟩ ?_)
  show V (denBl cal [] c_Lrenamed) _ ⟨[.val (webD W), .val d, .no, .no, .no, .no, .no, .no], st⟩
  unfold c_Lrenamed
  simp (disch := first | omega | (simp only [List.length_map, F_len, List.length_append, List.length_cons, List.length_nil] <;> omega)) only [↓vA, uA, Option.bind_some, Option.map_some, Option.bind_none, Option.map_none, List.length_cons, List.length_nil, List.length_map, List.length_append, List.set_cons_zero, List.set_cons_succ, List.set_nil, List.map_cons, List.map_nil, List.cons_append, List.nil_append, List.mem_cons, List.not_mem_nil, Nat.reduceLT, Nat.reduceLeDiff, Nat.reduceAdd, Nat.reduceEqDiff, Nat.zero_add, Nat.lt_add_one, not_false_eq_true, or_false, false_or, or_self, and_true, true_and, and_self, List.getD_cons_zero, List.getD_cons_succ, Nat.succ_ne_self, reduceCtorEq, ne_eq, List.replicate_zero, List.append_nil, Int.reduceToNat, Nat.zero_lt_succ, Nat.reduceSub, Nat.one_ne_zero, Nat.zero_ne_one, f_Lrenamed, ct_web, len_web, items_web]
  refine for_ix (fun k s => ∃ (x3 x4 x5 : Sl), s = ⟨[.val (webD W), .val d, .own (.lst (F W.n fun j => if inv W.n f j < k then handD (ren W f) j else .non)), x3, x4, x5, .no, .no], st⟩) ?_ ?_ ?_
  · exact ⟨.no, .no, .no, by simp⟩
  · rintro k hk s ⟨x3, x4, x5, rfl⟩
    have dg := ok.dg k hk
    simp (disch := first | omega | (simp only [List.length_map, F_len, List.length_append, List.length_cons, List.length_nil] <;> omega)) only [↓vA, uA, Option.bind_some, Option.map_some, Option.bind_none, Option.map_none, List.length_cons, List.length_nil, List.length_map, List.length_append, List.set_cons_zero, List.set_cons_succ, List.set_nil, List.map_cons, List.map_nil, List.cons_append, List.nil_append, List.mem_cons, List.not_mem_nil, Nat.reduceLT, Nat.reduceLeDiff, Nat.reduceAdd, Nat.reduceEqDiff, Nat.zero_add, Nat.lt_add_one, not_false_eq_true, or_false, false_or, or_self, and_true, true_and, and_self, List.getD_cons_zero, List.getD_cons_succ, Nat.succ_ne_self, reduceCtorEq, ne_eq, List.replicate_zero, List.append_nil, Int.reduceToNat, Nat.zero_lt_succ, Nat.reduceSub, Nat.one_ne_zero, Nat.zero_ne_one, items_hand, items_pegs]
    refine lc_map (fun p => pD (f (W.to k p).1, (W.to k p).2)) ?_ (fun p hp => ?_) ?_
    · omega
    · obtain ⟨t1, t2, t3⟩ := ok.tie k hk p hp
      rcases hd with rfl | rfl <;> simp (disch := first | omega | (simp only [List.length_map, F_len, List.length_append, List.length_cons, List.length_nil] <;> omega)) only [↓vA, uA, Option.bind_some, Option.map_some, Option.bind_none, Option.map_none, List.length_cons, List.length_nil, List.length_map, List.length_append, List.set_cons_zero, List.set_cons_succ, List.set_nil, List.map_cons, List.map_nil, List.cons_append, List.nil_append, List.mem_cons, List.not_mem_nil, Nat.reduceLT, Nat.reduceLeDiff, Nat.reduceAdd, Nat.reduceEqDiff, Nat.zero_add, Nat.lt_add_one, not_false_eq_true, or_false, false_or, or_self, and_true, true_and, and_self, List.getD_cons_zero, List.getD_cons_succ, Nat.succ_ne_self, reduceCtorEq, ne_eq, List.replicate_zero, List.append_nil, Int.reduceToNat, Nat.zero_lt_succ, Nat.reduceSub, Nat.one_ne_zero, Nat.zero_ne_one, items_p, rowL, pD_mk]
    have hfk := hf.lt k hk
    have key : F W.n (up (fun j => if inv W.n f j < k then handD (ren W f) j else .non) (f k) (.tup [.int (W.mark k : Nat), .tup (F (W.deg k) fun p => pD (f (W.to k p).1, (W.to k p).2))])) = F W.n (fun j => if inv W.n f j < k + 1 then handD (ren W f) j else .non) := by
      refine F_ext fun j hj => ?_
      unfold up
      by_cases e : j = f k
      · subst e
        rw [if_pos rfl, hf.inv_f hk, if_pos (by omega)]
        unfold handD pegsD
        simp only [ren, hf.inv_f hk]
      · rw [if_neg e]
        have : inv W.n f j ≠ k := fun h => e (by rw [← hf.f_inv hj, h])
        show (if inv W.n f j < k then handD (ren W f) j else .non) = _
        by_cases h : inv W.n f j < k
        · rw [if_pos h, if_pos (by omega)]
        · rw [if_neg h, if_neg (by omega)]
    rcases hd with rfl | rfl
    · simp (disch := first | omega | (simp only [List.length_map, F_len, List.length_append, List.length_cons, List.length_nil] <;> omega)) only [↓vA, uA, Option.bind_some, Option.map_some, Option.bind_none, Option.map_none, List.length_cons, List.length_nil, List.length_map, List.length_append, List.set_cons_zero, List.set_cons_succ, List.set_nil, List.map_cons, List.map_nil, List.cons_append, List.nil_append, List.mem_cons, List.not_mem_nil, Nat.reduceLT, Nat.reduceLeDiff, Nat.reduceAdd, Nat.reduceEqDiff, Nat.zero_add, Nat.lt_add_one, not_false_eq_true, or_false, false_or, or_self, and_true, true_and, and_self, List.getD_cons_zero, List.getD_cons_succ, Nat.succ_ne_self, reduceCtorEq, ne_eq, List.replicate_zero, List.append_nil, Int.reduceToNat, Nat.zero_lt_succ, Nat.reduceSub, Nat.one_ne_zero, Nat.zero_ne_one, rowL, key]
      exact ⟨_, _, _, rfl⟩
    · simp (disch := first | omega | (simp only [List.length_map, F_len, List.length_append, List.length_cons, List.length_nil] <;> omega)) only [↓vA, uA, Option.bind_some, Option.map_some, Option.bind_none, Option.map_none, List.length_cons, List.length_nil, List.length_map, List.length_append, List.set_cons_zero, List.set_cons_succ, List.set_nil, List.map_cons, List.map_nil, List.cons_append, List.nil_append, List.mem_cons, List.not_mem_nil, Nat.reduceLT, Nat.reduceLeDiff, Nat.reduceAdd, Nat.reduceEqDiff, Nat.zero_add, Nat.lt_add_one, not_false_eq_true, or_false, false_or, or_self, and_true, true_and, and_self, List.getD_cons_zero, List.getD_cons_succ, Nat.succ_ne_self, reduceCtorEq, ne_eq, List.replicate_zero, List.append_nil, Int.reduceToNat, Nat.zero_lt_succ, Nat.reduceSub, Nat.one_ne_zero, Nat.zero_ne_one, rowL, key]
      exact ⟨_, _, _, rfl⟩
  · rintro s ⟨x3, x4, x5, rfl⟩
    have key : F W.n (fun j => if inv W.n f j < W.n then handD (ren W f) j else .non) = F W.n (handD (ren W f)) := F_ext fun j hj => by rw [if_pos (hf.inv_lt hj)]
    simp (disch := first | omega | (simp only [List.length_map, F_len, List.length_append, List.length_cons, List.length_nil] <;> omega)) only [↓vA, uA, Option.bind_some, Option.map_some, Option.bind_none, Option.map_none, List.length_cons, List.length_nil, List.length_map, List.length_append, List.set_cons_zero, List.set_cons_succ, List.set_nil, List.map_cons, List.map_nil, List.cons_append, List.nil_append, List.mem_cons, List.not_mem_nil, Nat.reduceLT, Nat.reduceLeDiff, Nat.reduceAdd, Nat.reduceEqDiff, Nat.zero_add, Nat.lt_add_one, not_false_eq_true, or_false, false_or, or_self, and_true, true_and, and_self, List.getD_cons_zero, List.getD_cons_succ, Nat.succ_ne_self, reduceCtorEq, ne_eq, List.replicate_zero, List.append_nil, Int.reduceToNat, Nat.zero_lt_succ, Nat.reduceSub, Nat.one_ne_zero, Nat.zero_ne_one, key]
    rfl
end NH.DR

set_option Elab.async false
set_option linter.all false
set_option maxRecDepth 100000
set_option maxHeartbeats 1000000
set_option autoImplicit false
namespace NH.DR
open PySem L2
/-- the sheets turned along each tie -/
structure TurnOk (W : Web) (sh : Nat) (tn : Nat → Nat → Nat → Nat) (kvs : List (List Int × D)) : Prop where
  get : ∀ h, h < W.n → ∀ p, p < W.deg h → lookD kvs [(h : Int), (p : Int)] = some (.lst (rowL sh (tn h p)))
  lt : ∀ h, h < W.n → ∀ p, p < W.deg h → ∀ s, s < sh → tn h p s < sh
  back : ∀ h, h < W.n → ∀ p, p < W.deg h → ∀ s, s < sh → tn (W.to h p).1 (W.to h p).2 (tn h p s) = s
def Turnings (cal : Cal) : Prop := ∀ (o : O) (W : Web) (sh : Nat) (st : List O), BoxOk o → W.Ok → W.n ≤ 1000 → 1 ≤ sh → sh ≤ 4 →
    vCO (cal "_law_turnings" [.own o, .val (webD W), .val (.int sh)] st) fun r os st' => st' = st ∧ ∃ kvs tn o', TurnOk W sh tn kvs ∧ BoxOk o' ∧ r = .new (.dt kvs) ∧ os = [o']
theorem Turnings.use {cal : Cal} (h : Turnings cal) {o : O} {W : Web} {sh : Nat} {st : List O} {K : Rt → List O → List O → Prop} (ho : BoxOk o) (h1 : W.Ok) (h2 : W.n ≤ 1000) (h3 : 1 ≤ sh) (h4 : sh ≤ 4)
    (q : ∀ kvs tn (o' : O), TurnOk W sh tn kvs → BoxOk o' → K (.new (.dt kvs)) [o'] st) : vCO (cal "_law_turnings" [.own o, .val (webD W), .val (.int sh)] st) K := by
  refine v_wCO_mono (h o W sh st ho h1 h2 h3 h4) ?_
  rintro _ _ _ ⟨rfl, kvs, tn, o', h1, h2, rfl, rfl⟩
  exact q kvs tn o' h1 h2
/-- what is known when all pegs ahead of (h, p) are done -/
structure TurnAt (W : Web) (sh : Nat) (tn : Nat → Nat → Nat → Nat) (kvs : List (List Int × D)) (h p : Nat) : Prop where
  ok : ∀ a, a < W.n → ∀ b, b < W.deg a → ((a < h ∨ (a = h ∧ b < p)) ∨ ((W.to a b).1 < h ∨ ((W.to a b).1 = h ∧ (W.to a b).2 < p))) →
    lookD kvs [(a : Int), (b : Int)] = some (.lst (rowL sh (tn a b))) ∧ (∀ s, s < sh → tn a b s < sh) ∧ ∀ s, s < sh → tn (W.to a b).1 (W.to a b).2 (tn a b s) = s
  len : kvs.length ≤ 8 * h + 2 * p
theorem key_ne {a b c d : Nat} : ([(a : Int), (b : Int)] = [(c : Int), (d : Int)]) ↔ (a = c ∧ b = d) := by
  simp only [List.cons.injEq, and_true]
  omega
theorem turn_self {W : Web} {sh : Nat} {tn : Nat → Nat → Nat → Nat} {kvs : List (List Int × D)} {h p : Nat} {f : Nat → Nat} (ok : W.Ok) (hh : h < W.n) (hp : p < W.deg h) (t : TurnAt W sh tn kvs h p) (e : W.to h p = (h, p)) (lt : ∀ s, s < sh → f s < sh) (bk : ∀ s, s < sh → f (f s) = s) :
    TurnAt W sh (up2 tn h p f) (putD kvs [(h : Int), (p : Int)] (.lst (rowL sh f))) h (p + 1) := by
  refine ⟨fun a ha b hb c => ?_, by have := @put_len _ _ kvs [(h : Int), (p : Int)] (.lst (rowL sh f)); have := t.len; omega⟩
  by_cases eab : a = h ∧ b = p
  · obtain ⟨rfl, rfl⟩ := eab
    refine ⟨?_, ?_, ?_⟩
    · rw [look_put, if_pos rfl]; simp [up2]
    · simpa [up2] using lt
    · rw [e]; simpa [up2] using bk
  · have nab : ¬ ((W.to a b).1 = h ∧ (W.to a b).2 = p) := by
      rintro ⟨e1, e2⟩
      obtain ⟨t1, t2, t3⟩ := ok.tie a ha b hb
      rw [e1, e2, e] at t3
      exact eab ⟨(Prod.ext_iff.mp t3).1.symm, (Prod.ext_iff.mp t3).2.symm⟩
    obtain ⟨r1, r2, r3⟩ := t.ok a ha b hb (by omega)
    refine ⟨?_, ?_, ?_⟩
    · rw [look_put, if_neg (by rw [key_ne]; exact eab), r1]
      simp [up2, eab]
    · simpa [up2, eab] using r2
    · simpa [up2, eab, nab] using r3
theorem turn_two {W : Web} {sh : Nat} {tn : Nat → Nat → Nat → Nat} {kvs : List (List Int × D)} {h p g q : Nat} {f : Nat → Nat} (ok : W.Ok) (hh : h < W.n) (hp : p < W.deg h) (t : TurnAt W sh tn kvs h p) (e : W.to h p = (g, q)) (lt : h < g ∨ (h = g ∧ p < q)) (hf : Prm sh f) :
    TurnAt W sh (up2 (up2 tn h p f) g q (DR.inv sh f)) (putD (putD kvs [(h : Int), (p : Int)] (.lst (rowL sh f))) [(g : Int), (q : Int)] (.lst (rowL sh (DR.inv sh f)))) h (p + 1) := by
  refine ⟨fun a ha b hb c => ?_, by have := @put_len _ _ kvs [(h : Int), (p : Int)] (.lst (rowL sh f)); have := @put_len _ _ (putD kvs [(h : Int), (p : Int)] (.lst (rowL sh f))) [(g : Int), (q : Int)] (.lst (rowL sh (DR.inv sh f))); have := t.len; omega⟩
  obtain ⟨t1, t2, t3⟩ := ok.tie h hh p hp
  rw [e] at t1 t2 t3
  simp only at t1 t2 t3
  have nhg : ¬ (h = g ∧ p = q) := by omega
  by_cases e1 : a = g ∧ b = q
  · obtain ⟨rfl, rfl⟩ := e1
    refine ⟨?_, ?_, ?_⟩
    · rw [look_put, if_pos rfl]; simp [up2]
    · simpa [up2] using fun s hs => hf.inv_lt hs
    · rw [t3]
      simp only [up2, and_self, if_true, nhg, if_false]
      exact fun s hs => hf.f_inv hs
  · by_cases e2 : a = h ∧ b = p
    · obtain ⟨rfl, rfl⟩ := e2
      refine ⟨?_, ?_, ?_⟩
      · rw [look_put, if_neg (by rw [key_ne]; exact e1), look_put, if_pos rfl]
        simp only [up2, e1, if_false, and_self, if_true]
      · simp only [up2, e1, if_false, and_self, if_true]; exact hf.lt
      · rw [e]
        simp only [up2, e1, if_false, and_self, if_true]
        exact fun s hs => hf.inv_f hs
    · obtain ⟨u1, u2, u3⟩ := ok.tie a ha b hb
      have n1 : ¬ ((W.to a b).1 = h ∧ (W.to a b).2 = p) := by
        rintro ⟨x1, x2⟩
        rw [x1, x2, e] at u3
        exact e1 ⟨(Prod.ext_iff.mp u3).1.symm, (Prod.ext_iff.mp u3).2.symm⟩
      have n2 : ¬ ((W.to a b).1 = g ∧ (W.to a b).2 = q) := by
        rintro ⟨x1, x2⟩
        rw [x1, x2, t3] at u3
        exact e2 ⟨(Prod.ext_iff.mp u3).1.symm, (Prod.ext_iff.mp u3).2.symm⟩
      obtain ⟨r1, r2, r3⟩ := t.ok a ha b hb (by omega)
      refine ⟨?_, ?_, ?_⟩
      · rw [look_put, if_neg (by rw [key_ne]; exact e1), look_put, if_neg (by rw [key_ne]; exact e2), r1]
        simp only [up2, e1, e2, if_false]
      · simp only [up2, e1, e2, if_false]; exact r2
      · simp only [up2, e1, e2, if_false, n1, n2]; exact r3
theorem turn_skip {W : Web} {sh : Nat} {tn : Nat → Nat → Nat → Nat} {kvs : List (List Int × D)} {h p : Nat} (ok : W.Ok) (hh : h < W.n) (hp : p < W.deg h) (t : TurnAt W sh tn kvs h p) (lt : (W.to h p).1 < h ∨ ((W.to h p).1 = h ∧ (W.to h p).2 < p)) :
    TurnAt W sh tn kvs h (p + 1) := by
  refine ⟨fun a ha b hb c => ?_, by have := t.len; omega⟩
  by_cases e1 : a = h ∧ b = p
  · obtain ⟨rfl, rfl⟩ := e1
    exact t.ok a ha b hb (.inr lt)
  · by_cases e2 : (W.to a b).1 = h ∧ (W.to a b).2 = p
    · obtain ⟨u1, u2, u3⟩ := ok.tie a ha b hb
      rw [e2.1, e2.2] at u3
      rw [u3] at lt
      exact t.ok a ha b hb (.inl lt)
    · exact t.ok a ha b hb (by omega)
theorem shift_ok {sh shift : Nat} {r : Nat → Nat} (h1 : 1 ≤ sh) (h4 : sh ≤ 4) (hs : shift < sh) (lt : ∀ s, s < sh → r s < sh) (bk : ∀ s, s < sh → r (r s) = s) :
    (∀ s, s < sh → (r ((s + shift) % sh) + (sh - shift)) % sh < sh) ∧ (∀ s, s < sh → (r (((r ((s + shift) % sh) + (sh - shift)) % sh + shift) % sh) + (sh - shift)) % sh = s) ∧ ∀ s, s < sh → ((r ((s + shift) % sh) : Int) - (shift : Int)) % (sh : Int) = (((r ((s + shift) % sh) + (sh - shift)) % sh : Nat) : Int) := by
  have m : ∀ x, x % sh < sh := fun x => Nat.mod_lt _ (by omega)
  refine ⟨fun s _ => m _, fun s hs2 => ?_, fun s hs2 => ?_⟩
  · have a := lt _ (m (s + shift))
    have e : ((r ((s + shift) % sh) + (sh - shift)) % sh + shift) % sh = r ((s + shift) % sh) := by
      generalize r ((s + shift) % sh) = y at a
      have : sh = 1 ∨ sh = 2 ∨ sh = 3 ∨ sh = 4 := by omega
      rcases this with rfl | rfl | rfl | rfl <;> omega
    rw [e, bk _ (m _)]
    have : sh = 1 ∨ sh = 2 ∨ sh = 3 ∨ sh = 4 := by omega
    rcases this with rfl | rfl | rfl | rfl <;> omega
  · have a := lt _ (m (s + shift))
    generalize r ((s + shift) % sh) = y at a
    have : sh = 1 ∨ sh = 2 ∨ sh = 3 ∨ sh = 4 := by omega
    rcases this with rfl | rfl | rfl | rfl <;> omega
theorem turn_run {cal : Cal} (hT : Take cal) (hS : Shuf cal) (o : O) (W : Web) (sh : Nat) (st : List O) (ho : BoxOk o) (ok : W.Ok) (hn : W.n ≤ 1000) (h1 : 1 ≤ sh) (h4 : sh ≤ 4) :
    vCO (runFd cal f_Lturnings [.own o, .val (webD W), .val (.int sh)] st) fun r os st' => st' = st ∧ ∃ kvs tn o', TurnOk W sh tn kvs ∧ BoxOk o' ∧ r = .new (.dt kvs) ∧ os = [o'] := by
  refine v_wCO_run ⟨rfl, rfl, by decide⟩ ?_
  show V (denBl cal [0] c_Lturnings) _ ⟨[.own o, .val (webD W), .val (.int sh), .no, .no, .no, .no, .no, .no, .no, .no, .no, .no, .no], st⟩
  unfold c_Lturnings
  simp (disch := first | omega | (simp only [List.length_map, F_len, List.length_append, List.length_cons, List.length_nil] <;> omega)) only [↓vA, uA, Option.bind_some, Option.map_some, Option.bind_none, Option.map_none, List.length_cons, List.length_nil, List.length_map, List.length_append, List.set_cons_zero, List.set_cons_succ, List.set_nil, List.map_cons, List.map_nil, List.cons_append, List.nil_append, List.mem_cons, List.not_mem_nil, Nat.reduceLT, Nat.reduceLeDiff, Nat.reduceAdd, Nat.reduceEqDiff, Nat.zero_add, Nat.lt_add_one, not_false_eq_true, or_false, false_or, or_self, and_true, true_and, and_self, List.getD_cons_zero, List.getD_cons_succ, Nat.succ_ne_self, reduceCtorEq, ne_eq, List.replicate_zero, List.append_nil, Int.reduceToNat, Nat.zero_lt_succ, Nat.reduceSub, Nat.one_ne_zero, Nat.zero_ne_one, f_Lturnings, items_web]
  refine for_ix (fun h s => ∃ (o : O) (kvs : List (List Int × D)) (tn : Nat → Nat → Nat → Nat) (x4 x5 x6 x7 x8 x9 x10 x11 x12 : Sl), BoxOk o ∧ TurnAt W sh tn kvs h 0 ∧ s = ⟨[.own o, .val (webD W), .val (.int sh), .own (.dt kvs), x4, x5, x6, x7, x8, x9, x10, x11, x12, .no], st⟩) ?_ ?_ ?_
  · exact ⟨o, [], fun _ _ _ => 0, _, _, _, _, _, _, _, _, _, ho, ⟨fun a _ b _ c => by omega, by simp⟩, rfl⟩
  · rintro h hh s ⟨o, kvs, tn, x4, x5, x6, x7, x8, x9, x10, x11, x12, hb, t, rfl⟩
    simp (disch := first | omega | (simp only [List.length_map, F_len, List.length_append, List.length_cons, List.length_nil] <;> omega)) only [↓vA, uA, Option.bind_some, Option.map_some, Option.bind_none, Option.map_none, List.length_cons, List.length_nil, List.length_map, List.length_append, List.set_cons_zero, List.set_cons_succ, List.set_nil, List.map_cons, List.map_nil, List.cons_append, List.nil_append, List.mem_cons, List.not_mem_nil, Nat.reduceLT, Nat.reduceLeDiff, Nat.reduceAdd, Nat.reduceEqDiff, Nat.zero_add, Nat.lt_add_one, not_false_eq_true, or_false, false_or, or_self, and_true, true_and, and_self, List.getD_cons_zero, List.getD_cons_succ, Nat.succ_ne_self, reduceCtorEq, ne_eq, List.replicate_zero, List.append_nil, Int.reduceToNat, Nat.zero_lt_succ, Nat.reduceSub, Nat.one_ne_zero, Nat.zero_ne_one, items_hand, items_pegs]
    refine for_ix (fun p s => ∃ (o : O) (kvs : List (List Int × D)) (tn : Nat → Nat → Nat → Nat) (x7 x8 x9 x10 x11 x12 : Sl), BoxOk o ∧ TurnAt W sh tn kvs h p ∧ s = ⟨[.own o, .val (webD W), .val (.int sh), .own (.dt kvs), .val (.int (h : Nat)), .val (.int (W.mark h : Nat)), .val (pegsD W h), x7, x8, x9, x10, x11, x12, .no], st⟩) ?_ ?_ ?_
    · exact ⟨o, kvs, tn, _, _, _, _, _, _, hb, t, rfl⟩
    · rintro p hp s ⟨o, kvs, tn, x7, x8, x9, x10, x11, x12, hb, t, rfl⟩
      have dg := ok.dg h hh
      have kl := t.len
      obtain ⟨t1, t2, t3⟩ := ok.tie h hh p hp
      simp (disch := first | omega | (simp only [List.length_map, F_len, List.length_append, List.length_cons, List.length_nil] <;> omega)) only [↓vA, uA, Option.bind_some, Option.map_some, Option.bind_none, Option.map_none, List.length_cons, List.length_nil, List.length_map, List.length_append, List.set_cons_zero, List.set_cons_succ, List.set_nil, List.map_cons, List.map_nil, List.cons_append, List.nil_append, List.mem_cons, List.not_mem_nil, Nat.reduceLT, Nat.reduceLeDiff, Nat.reduceAdd, Nat.reduceEqDiff, Nat.zero_add, Nat.lt_add_one, not_false_eq_true, or_false, false_or, or_self, and_true, true_and, and_self, List.getD_cons_zero, List.getD_cons_succ, Nat.succ_ne_self, reduceCtorEq, ne_eq, List.replicate_zero, List.append_nil, Int.reduceToNat, Nat.zero_lt_succ, Nat.reduceSub, Nat.one_ne_zero, Nat.zero_ne_one, items_p, pD_mk, ct_p, cmp_eqP]
      refine v_wBr_dec (fun e => ?_) (fun e => ?_)
      · simp (disch := first | omega | (simp only [List.length_map, F_len, List.length_append, List.length_cons, List.length_nil] <;> omega)) only [↓vA, uA, Option.bind_some, Option.map_some, Option.bind_none, Option.map_none, List.length_cons, List.length_nil, List.length_map, List.length_append, List.set_cons_zero, List.set_cons_succ, List.set_nil, List.map_cons, List.map_nil, List.cons_append, List.nil_append, List.mem_cons, List.not_mem_nil, Nat.reduceLT, Nat.reduceLeDiff, Nat.reduceAdd, Nat.reduceEqDiff, Nat.zero_add, Nat.lt_add_one, not_false_eq_true, or_false, false_or, or_self, and_true, true_and, and_self, List.getD_cons_zero, List.getD_cons_succ, Nat.succ_ne_self, reduceCtorEq, ne_eq, List.replicate_zero, List.append_nil, Int.reduceToNat, Nat.zero_lt_succ, Nat.reduceSub, Nat.one_ne_zero, Nat.zero_ne_one]
        refine for_ix (fun k s => ∃ (o : O) (r : Nat → Nat) (x11 : Sl), BoxOk o ∧ (∀ s, s < sh → r s < sh) ∧ (∀ s, s < sh → r (r s) = s) ∧ (∀ s, 2 * k ≤ s → r s = s) ∧ s = ⟨[.own o, .val (webD W), .val (.int sh), .own (.dt kvs), .val (.int (h : Nat)), .val (.int (W.mark h : Nat)), .val (pegsD W h), .val (.int (p : Nat)), .val (.int ((W.to h p).1 : Nat)), .val (.int ((W.to h p).2 : Nat)), .own (.lst (F sh fun j => .int (r j : Nat))), x11, x12, .no], st⟩) ?_ ?_ ?_
        · exact ⟨o, fun s => s, _, hb, fun _ h => h, fun _ _ => rfl, fun _ _ => rfl, rfl⟩
        · rintro k hk s ⟨o, r, x11, hb, r1, r2, r3, rfl⟩
          simp (disch := first | omega | (simp only [List.length_map, F_len, List.length_append, List.length_cons, List.length_nil] <;> omega)) only [↓vA, uA, Option.bind_some, Option.map_some, Option.bind_none, Option.map_none, List.length_cons, List.length_nil, List.length_map, List.length_append, List.set_cons_zero, List.set_cons_succ, List.set_nil, List.map_cons, List.map_nil, List.cons_append, List.nil_append, List.mem_cons, List.not_mem_nil, Nat.reduceLT, Nat.reduceLeDiff, Nat.reduceAdd, Nat.reduceEqDiff, Nat.zero_add, Nat.lt_add_one, not_false_eq_true, or_false, false_or, or_self, and_true, true_and, and_self, List.getD_cons_zero, List.getD_cons_succ, Nat.succ_ne_self, reduceCtorEq, ne_eq, List.replicate_zero, List.append_nil, Int.reduceToNat, Nat.zero_lt_succ, Nat.reduceSub, Nat.one_ne_zero, Nat.zero_ne_one]
          refine hT.useL hb (by omega) (by omega) fun v o1 hv hb1 => ?_
          simp (disch := first | omega | (simp only [List.length_map, F_len, List.length_append, List.length_cons, List.length_nil] <;> omega)) only [↓vA, uA, Option.bind_some, Option.map_some, Option.bind_none, Option.map_none, List.length_cons, List.length_nil, List.length_map, List.length_append, List.set_cons_zero, List.set_cons_succ, List.set_nil, List.map_cons, List.map_nil, List.cons_append, List.nil_append, List.mem_cons, List.not_mem_nil, Nat.reduceLT, Nat.reduceLeDiff, Nat.reduceAdd, Nat.reduceEqDiff, Nat.zero_add, Nat.lt_add_one, not_false_eq_true, or_false, false_or, or_self, and_true, true_and, and_self, List.getD_cons_zero, List.getD_cons_succ, Nat.succ_ne_self, reduceCtorEq, ne_eq, List.replicate_zero, List.append_nil, Int.reduceToNat, Nat.zero_lt_succ, Nat.reduceSub, Nat.one_ne_zero, Nat.zero_ne_one]
          refine v_wBr_dec (fun e => ?_) (fun e => ?_)
          · simp (disch := first | omega | (simp only [List.length_map, F_len, List.length_append, List.length_cons, List.length_nil] <;> omega)) only [↓vA, uA, Option.bind_some, Option.map_some, Option.bind_none, Option.map_none, List.length_cons, List.length_nil, List.length_map, List.length_append, List.set_cons_zero, List.set_cons_succ, List.set_nil, List.map_cons, List.map_nil, List.cons_append, List.nil_append, List.mem_cons, List.not_mem_nil, Nat.reduceLT, Nat.reduceLeDiff, Nat.reduceAdd, Nat.reduceEqDiff, Nat.zero_add, Nat.lt_add_one, not_false_eq_true, or_false, false_or, or_self, and_true, true_and, and_self, List.getD_cons_zero, List.getD_cons_succ, Nat.succ_ne_self, reduceCtorEq, ne_eq, List.replicate_zero, List.append_nil, Int.reduceToNat, Nat.zero_lt_succ, Nat.reduceSub, Nat.one_ne_zero, Nat.zero_ne_one, up_cnt]
            refine ⟨o1, _, _, hb1, ?_, ?_, ?_, rfl⟩
            · intro s hs
              have := r1 s hs
              unfold up
              split
              · omega
              · split <;> omega
            · intro s hs
              have a1 := r3 (2 * k) (by omega)
              have a2 := r3 (2 * k + 1) (by omega)
              have a3 := r2 s hs
              unfold up
              by_cases e1 : s = 2 * k + 1
              · subst e1; simp
              · by_cases e2 : s = 2 * k
                · subst e2; simp
                · have n1 : r s ≠ 2 * k := fun x => by rw [x, a1] at a3; omega
                  have n2 : r s ≠ 2 * k + 1 := fun x => by rw [x, a2] at a3; omega
                  simp [e1, e2, n1, n2, a3]
            · intro s hs
              unfold up
              rw [if_neg (by omega), if_neg (by omega)]
              exact r3 s (by omega)
          · simp (disch := first | omega | (simp only [List.length_map, F_len, List.length_append, List.length_cons, List.length_nil] <;> omega)) only [↓vA, uA, Option.bind_some, Option.map_some, Option.bind_none, Option.map_none, List.length_cons, List.length_nil, List.length_map, List.length_append, List.set_cons_zero, List.set_cons_succ, List.set_nil, List.map_cons, List.map_nil, List.cons_append, List.nil_append, List.mem_cons, List.not_mem_nil, Nat.reduceLT, Nat.reduceLeDiff, Nat.reduceAdd, Nat.reduceEqDiff, Nat.zero_add, Nat.lt_add_one, not_false_eq_true, or_false, false_or, or_self, and_true, true_and, and_self, List.getD_cons_zero, List.getD_cons_succ, Nat.succ_ne_self, reduceCtorEq, ne_eq, List.replicate_zero, List.append_nil, Int.reduceToNat, Nat.zero_lt_succ, Nat.reduceSub, Nat.one_ne_zero, Nat.zero_ne_one]
            exact ⟨o1, r, _, hb1, r1, r2, fun s hs => r3 s (by omega), rfl⟩
        · rintro s ⟨o, r, x11, hb, r1, r2, r3, rfl⟩
          simp (disch := first | omega | (simp only [List.length_map, F_len, List.length_append, List.length_cons, List.length_nil] <;> omega)) only [↓vA, uA, Option.bind_some, Option.map_some, Option.bind_none, Option.map_none, List.length_cons, List.length_nil, List.length_map, List.length_append, List.set_cons_zero, List.set_cons_succ, List.set_nil, List.map_cons, List.map_nil, List.cons_append, List.nil_append, List.mem_cons, List.not_mem_nil, Nat.reduceLT, Nat.reduceLeDiff, Nat.reduceAdd, Nat.reduceEqDiff, Nat.zero_add, Nat.lt_add_one, not_false_eq_true, or_false, false_or, or_self, and_true, true_and, and_self, List.getD_cons_zero, List.getD_cons_succ, Nat.succ_ne_self, reduceCtorEq, ne_eq, List.replicate_zero, List.append_nil, Int.reduceToNat, Nat.zero_lt_succ, Nat.reduceSub, Nat.one_ne_zero, Nat.zero_ne_one]
          refine hT.use hb (by omega) (by omega) fun shift o1 hv hb1 => ?_
          obtain ⟨s1, s2, s3⟩ := shift_ok h1 h4 hv r1 r2
          simp (disch := first | omega | (simp only [List.length_map, F_len, List.length_append, List.length_cons, List.length_nil] <;> omega)) only [↓vA, uA, Option.bind_some, Option.map_some, Option.bind_none, Option.map_none, List.length_cons, List.length_nil, List.length_map, List.length_append, List.set_cons_zero, List.set_cons_succ, List.set_nil, List.map_cons, List.map_nil, List.cons_append, List.nil_append, List.mem_cons, List.not_mem_nil, Nat.reduceLT, Nat.reduceLeDiff, Nat.reduceAdd, Nat.reduceEqDiff, Nat.zero_add, Nat.lt_add_one, not_false_eq_true, or_false, false_or, or_self, and_true, true_and, and_self, List.getD_cons_zero, List.getD_cons_succ, Nat.succ_ne_self, reduceCtorEq, ne_eq, List.replicate_zero, List.append_nil, Int.reduceToNat, Nat.zero_lt_succ, Nat.reduceSub, Nat.one_ne_zero, Nat.zero_ne_one]
          refine lc_map (fun s => .int (((r ((s + shift) % sh) + (sh - shift)) % sh : Nat) : Int)) ?_ (fun s hs => ?_) ?_
          · omega
          · have : (s + shift) % sh < sh := Nat.mod_lt _ (by omega)
            simp (disch := first | omega | (simp only [List.length_map, F_len, List.length_append, List.length_cons, List.length_nil] <;> omega)) only [↓vA, uA, Option.bind_some, Option.map_some, Option.bind_none, Option.map_none, List.length_cons, List.length_nil, List.length_map, List.length_append, List.set_cons_zero, List.set_cons_succ, List.set_nil, List.map_cons, List.map_nil, List.cons_append, List.nil_append, List.mem_cons, List.not_mem_nil, Nat.reduceLT, Nat.reduceLeDiff, Nat.reduceAdd, Nat.reduceEqDiff, Nat.zero_add, Nat.lt_add_one, not_false_eq_true, or_false, false_or, or_self, and_true, true_and, and_self, List.getD_cons_zero, List.getD_cons_succ, Nat.succ_ne_self, reduceCtorEq, ne_eq, List.replicate_zero, List.append_nil, Int.reduceToNat, Nat.zero_lt_succ, Nat.reduceSub, Nat.one_ne_zero, Nat.zero_ne_one, s3 s hs]
          simp (disch := first | omega | (simp only [List.length_map, F_len, List.length_append, List.length_cons, List.length_nil] <;> omega)) only [↓vA, uA, Option.bind_some, Option.map_some, Option.bind_none, Option.map_none, List.length_cons, List.length_nil, List.length_map, List.length_append, List.set_cons_zero, List.set_cons_succ, List.set_nil, List.map_cons, List.map_nil, List.cons_append, List.nil_append, List.mem_cons, List.not_mem_nil, Nat.reduceLT, Nat.reduceLeDiff, Nat.reduceAdd, Nat.reduceEqDiff, Nat.zero_add, Nat.lt_add_one, not_false_eq_true, or_false, false_or, or_self, and_true, true_and, and_self, List.getD_cons_zero, List.getD_cons_succ, Nat.succ_ne_self, reduceCtorEq, ne_eq, List.replicate_zero, List.append_nil, Int.reduceToNat, Nat.zero_lt_succ, Nat.reduceSub, Nat.one_ne_zero, Nat.zero_ne_one]
          exact ⟨o1, _, _, _, _, _, _, _, _, hb1, turn_self ok hh hp t e s1 s2, rfl⟩
      · simp (disch := first | omega | (simp only [List.length_map, F_len, List.length_append, List.length_cons, List.length_nil] <;> omega)) only [↓vA, uA, Option.bind_some, Option.map_some, Option.bind_none, Option.map_none, List.length_cons, List.length_nil, List.length_map, List.length_append, List.set_cons_zero, List.set_cons_succ, List.set_nil, List.map_cons, List.map_nil, List.cons_append, List.nil_append, List.mem_cons, List.not_mem_nil, Nat.reduceLT, Nat.reduceLeDiff, Nat.reduceAdd, Nat.reduceEqDiff, Nat.zero_add, Nat.lt_add_one, not_false_eq_true, or_false, false_or, or_self, and_true, true_and, and_self, List.getD_cons_zero, List.getD_cons_succ, Nat.succ_ne_self, reduceCtorEq, ne_eq, List.replicate_zero, List.append_nil, Int.reduceToNat, Nat.zero_lt_succ, Nat.reduceSub, Nat.one_ne_zero, Nat.zero_ne_one, pD_mk, ct_p, cmp_ltP]
        refine v_wBr_dec (fun lt => ?_) (fun lt => ?_)
        · simp (disch := first | omega | (simp only [List.length_map, F_len, List.length_append, List.length_cons, List.length_nil] <;> omega)) only [↓vA, uA, Option.bind_some, Option.map_some, Option.bind_none, Option.map_none, List.length_cons, List.length_nil, List.length_map, List.length_append, List.set_cons_zero, List.set_cons_succ, List.set_nil, List.map_cons, List.map_nil, List.cons_append, List.nil_append, List.mem_cons, List.not_mem_nil, Nat.reduceLT, Nat.reduceLeDiff, Nat.reduceAdd, Nat.reduceEqDiff, Nat.zero_add, Nat.lt_add_one, not_false_eq_true, or_false, false_or, or_self, and_true, true_and, and_self, List.getD_cons_zero, List.getD_cons_succ, Nat.succ_ne_self, reduceCtorEq, ne_eq, List.replicate_zero, List.append_nil, Int.reduceToNat, Nat.zero_lt_succ, Nat.reduceSub, Nat.one_ne_zero, Nat.zero_ne_one]
          refine hS.use hb (by omega) fun f o1 hf hb1 => ?_
          simp (disch := first | omega | (simp only [List.length_map, F_len, List.length_append, List.length_cons, List.length_nil] <;> omega)) only [↓vA, uA, Option.bind_some, Option.map_some, Option.bind_none, Option.map_none, List.length_cons, List.length_nil, List.length_map, List.length_append, List.set_cons_zero, List.set_cons_succ, List.set_nil, List.map_cons, List.map_nil, List.cons_append, List.nil_append, List.mem_cons, List.not_mem_nil, Nat.reduceLT, Nat.reduceLeDiff, Nat.reduceAdd, Nat.reduceEqDiff, Nat.zero_add, Nat.lt_add_one, not_false_eq_true, or_false, false_or, or_self, and_true, true_and, and_self, List.getD_cons_zero, List.getD_cons_succ, Nat.succ_ne_self, reduceCtorEq, ne_eq, List.replicate_zero, List.append_nil, Int.reduceToNat, Nat.zero_lt_succ, Nat.reduceSub, Nat.one_ne_zero, Nat.zero_ne_one, tkeyOf_two]
          refine lc_map (fun s => .int (DR.inv sh f s : Nat)) ?_ (fun s hs => ?_) ?_
          · omega
          · simp (disch := first | omega | (simp only [List.length_map, F_len, List.length_append, List.length_cons, List.length_nil] <;> omega)) only [↓vA, uA, Option.bind_some, Option.map_some, Option.bind_none, Option.map_none, List.length_cons, List.length_nil, List.length_map, List.length_append, List.set_cons_zero, List.set_cons_succ, List.set_nil, List.map_cons, List.map_nil, List.cons_append, List.nil_append, List.mem_cons, List.not_mem_nil, Nat.reduceLT, Nat.reduceLeDiff, Nat.reduceAdd, Nat.reduceEqDiff, Nat.zero_add, Nat.lt_add_one, not_false_eq_true, or_false, false_or, or_self, and_true, true_and, and_self, List.getD_cons_zero, List.getD_cons_succ, Nat.succ_ne_self, reduceCtorEq, ne_eq, List.replicate_zero, List.append_nil, Int.reduceToNat, Nat.zero_lt_succ, Nat.reduceSub, Nat.one_ne_zero, Nat.zero_ne_one, index_row hf hs]
          have pl := @put_len _ _ kvs [(h : Int), (p : Int)] (.lst (rowL sh f))
          simp (disch := first | omega | (simp only [List.length_map, F_len, List.length_append, List.length_cons, List.length_nil] <;> omega)) only [↓vA, uA, Option.bind_some, Option.map_some, Option.bind_none, Option.map_none, List.length_cons, List.length_nil, List.length_map, List.length_append, List.set_cons_zero, List.set_cons_succ, List.set_nil, List.map_cons, List.map_nil, List.cons_append, List.nil_append, List.mem_cons, List.not_mem_nil, Nat.reduceLT, Nat.reduceLeDiff, Nat.reduceAdd, Nat.reduceEqDiff, Nat.zero_add, Nat.lt_add_one, not_false_eq_true, or_false, false_or, or_self, and_true, true_and, and_self, List.getD_cons_zero, List.getD_cons_succ, Nat.succ_ne_self, reduceCtorEq, ne_eq, List.replicate_zero, List.append_nil, Int.reduceToNat, Nat.zero_lt_succ, Nat.reduceSub, Nat.one_ne_zero, Nat.zero_ne_one]
          exact ⟨o1, _, _, _, _, _, _, _, _, hb1, turn_two ok hh hp t rfl lt hf, rfl⟩
        · simp (disch := first | omega | (simp only [List.length_map, F_len, List.length_append, List.length_cons, List.length_nil] <;> omega)) only [↓vA, uA, Option.bind_some, Option.map_some, Option.bind_none, Option.map_none, List.length_cons, List.length_nil, List.length_map, List.length_append, List.set_cons_zero, List.set_cons_succ, List.set_nil, List.map_cons, List.map_nil, List.cons_append, List.nil_append, List.mem_cons, List.not_mem_nil, Nat.reduceLT, Nat.reduceLeDiff, Nat.reduceAdd, Nat.reduceEqDiff, Nat.zero_add, Nat.lt_add_one, not_false_eq_true, or_false, false_or, or_self, and_true, true_and, and_self, List.getD_cons_zero, List.getD_cons_succ, Nat.succ_ne_self, reduceCtorEq, ne_eq, List.replicate_zero, List.append_nil, Int.reduceToNat, Nat.zero_lt_succ, Nat.reduceSub, Nat.one_ne_zero, Nat.zero_ne_one]
          exact ⟨o, _, _, _, _, _, _, _, _, hb, turn_skip ok hh hp t (by have : ¬ ((W.to h p).1 = h ∧ (W.to h p).2 = p) := fun x => e (by rw [x.1, x.2]); omega), rfl⟩
    · rintro s ⟨o, kvs, tn, x7, x8, x9, x10, x11, x12, hb, t, rfl⟩
      simp (disch := first | omega | (simp only [List.length_map, F_len, List.length_append, List.length_cons, List.length_nil] <;> omega)) only [↓vA, uA, Option.bind_some, Option.map_some, Option.bind_none, Option.map_none, List.length_cons, List.length_nil, List.length_map, List.length_append, List.set_cons_zero, List.set_cons_succ, List.set_nil, List.map_cons, List.map_nil, List.cons_append, List.nil_append, List.mem_cons, List.not_mem_nil, Nat.reduceLT, Nat.reduceLeDiff, Nat.reduceAdd, Nat.reduceEqDiff, Nat.zero_add, Nat.lt_add_one, not_false_eq_true, or_false, false_or, or_self, and_true, true_and, and_self, List.getD_cons_zero, List.getD_cons_succ, Nat.succ_ne_self, reduceCtorEq, ne_eq, List.replicate_zero, List.append_nil, Int.reduceToNat, Nat.zero_lt_succ, Nat.reduceSub, Nat.one_ne_zero, Nat.zero_ne_one]
      refine ⟨o, kvs, tn, _, _, _, _, _, _, _, _, _, hb, ⟨fun a ha b hb c => t.ok a ha b hb ?_, ?_⟩, rfl⟩
      · obtain ⟨u1, u2, u3⟩ := ok.tie a ha b hb
        rcases c with c | c
        · by_cases e : a = h
          · subst e; exact .inl (.inr ⟨rfl, hb⟩)
          · exact .inl (by omega)
        · by_cases e : (W.to a b).1 = h
          · rw [e] at u2; exact .inr (.inr ⟨e, u2⟩)
          · exact .inr (by omega)
      · have := t.len
        have := ok.dg h hh
        omega
  · rintro s ⟨o, kvs, tn, x4, x5, x6, x7, x8, x9, x10, x11, x12, hb, t, rfl⟩
    simp (disch := first | omega | (simp only [List.length_map, F_len, List.length_append, List.length_cons, List.length_nil] <;> omega)) only [↓vA, uA, Option.bind_some, Option.map_some, Option.bind_none, Option.map_none, List.length_cons, List.length_nil, List.length_map, List.length_append, List.set_cons_zero, List.set_cons_succ, List.set_nil, List.map_cons, List.map_nil, List.cons_append, List.nil_append, List.mem_cons, List.not_mem_nil, Nat.reduceLT, Nat.reduceLeDiff, Nat.reduceAdd, Nat.reduceEqDiff, Nat.zero_add, Nat.lt_add_one, not_false_eq_true, or_false, false_or, or_self, and_true, true_and, and_self, List.getD_cons_zero, List.getD_cons_succ, Nat.succ_ne_self, reduceCtorEq, ne_eq, List.replicate_zero, List.append_nil, Int.reduceToNat, Nat.zero_lt_succ, Nat.reduceSub, Nat.one_ne_zero, Nat.zero_ne_one]
    exact ⟨kvs, tn, o, ⟨fun h hh p hp => (t.ok h hh p hp (.inl (.inl hh))).1, fun h hh p hp => (t.ok h hh p hp (.inl (.inl hh))).2.1, fun h hh p hp => (t.ok h hh p hp (.inl (.inl hh))).2.2⟩, hb, rfl, rfl⟩
end NH.DR

set_option Elab.async false
set_option linter.all false
set_option maxRecDepth 100000
set_option maxHeartbeats 1000000
set_option autoImplicit false
namespace NH.DR
open PySem L2
theorem nodup_len : ∀ (N : Nat) (xs : List Nat), xs.Nodup → (∀ x ∈ xs, x < N) → xs.length ≤ N
  | 0, xs, _, h => by
    cases xs with
    | nil => simp
    | cons x xs => exact absurd (h x (by simp)) (by omega)
  | N + 1, xs, nd, h => by
    have := nodup_len N (xs.erase N) (nd.erase N) fun x hx => by
      have h1 := h x (List.mem_of_mem_erase hx)
      have h2 : x ≠ N := fun e => by subst e; exact (List.Nodup.not_mem_erase nd) hx
      omega
    rw [List.length_erase] at this
    split at this <;> omega
theorem nodup_pairs {n m : Nat} {xs : List End} (nd : xs.Nodup) (h : ∀ e ∈ xs, e.1 < n ∧ e.2 < m) : xs.length ≤ n * m := by
  have := nodup_len (n * m) (xs.map fun e => e.1 * m + e.2) ?_ ?_
  · simpa using this
  · rw [List.Nodup, List.pairwise_map]
    refine List.Pairwise.imp_of_mem (fun {a b} ha hb hne e => hne ?_) nd
    obtain ⟨a1, a2⟩ := h a ha
    obtain ⟨b1, b2⟩ := h b hb
    have e1 : a.1 = b.1 := by
      have q1 : (a.1 * m + a.2) / m = a.1 := by rw [Nat.mul_comm, Nat.mul_add_div (by omega), Nat.div_eq_of_lt a2]; rfl
      have q2 : (b.1 * m + b.2) / m = b.1 := by rw [Nat.mul_comm, Nat.mul_add_div (by omega), Nat.div_eq_of_lt b2]; rfl
      rw [← q1, ← q2, e]
    rw [e1] at e
    exact Prod.ext e1 (by omega)
  · intro x hx
    obtain ⟨e, he, rfl⟩ := List.mem_map.mp hx
    obtain ⟨a1, a2⟩ := h e he
    have : (e.1 + 1) * m ≤ n * m := Nat.mul_le_mul_right m a1
    rw [Nat.add_mul] at this
    omega
/-- where a peg leads, with its sheet -/
def child (W : Web) (tn : Nat → Nat → Nat → Nat) (e : End) (p : Nat) : End := ((W.to e.1 p).1, tn e.1 p e.2)
structure BI (W : Web) (sh : Nat) (tn : Nat → Nat → Nat → Nat) (there : List End) : Prop where
  nd : there.Nodup
  rg : ∀ e ∈ there, e.1 < W.n ∧ e.2 < sh
  hd : there[0]? = some (0, 0)
  pa : ∀ i e, there[i]? = some e → i = 0 ∨ ∃ j e' p, j < i ∧ there[j]? = some e' ∧ p < W.deg e'.1 ∧ e = child W tn e' p
theorem BI.add {W : Web} {sh : Nat} {tn : Nat → Nat → Nat → Nat} {there : List End} {e' : End} {at_ p : Nat} (b : BI W sh tn there) (h1 : there[at_]? = some e') (hp : p < W.deg e'.1) (hn : child W tn e' p ∉ there) (hr : (child W tn e' p).1 < W.n ∧ (child W tn e' p).2 < sh) : BI W sh tn (there ++ [child W tn e' p]) := by
  have hl : at_ < there.length := (List.getElem?_eq_some_iff.mp h1).1
  refine ⟨?_, ?_, ?_, ?_⟩
  · refine List.nodup_append.mpr ⟨b.nd, by simp, fun x hx y hy => ?_⟩
    rw [List.mem_singleton.mp hy]
    exact fun e => hn (e ▸ hx)
  · intro e he
    rcases List.mem_append.mp he with he | he
    · exact b.rg e he
    · rw [List.mem_singleton.mp he]; exact hr
  · rw [List.getElem?_append_left (by omega)]; exact b.hd
  · intro i e hi
    by_cases hil : i < there.length
    · rw [List.getElem?_append_left hil] at hi
      rcases b.pa i e hi with h | ⟨j, e2, q, h⟩
      · exact .inl h
      · exact .inr ⟨j, e2, q, h.1, by rw [List.getElem?_append_left (by omega)]; exact h.2.1, h.2.2⟩
    · have hl2 := (List.getElem?_eq_some_iff.mp hi).1
      simp at hl2
      have : i = there.length := by omega
      subst this
      simp at hi
      exact .inr ⟨at_, e', p, hl, by rw [List.getElem?_append_left hl]; exact h1, hp, hi.symm⟩
def endsWeb (W : Web) (tn : Nat → Nat → Nat → Nat) (there : List End) : Web :=
  ⟨there.length, fun k => W.mark (there.getD k (0, 0)).1, fun k => W.deg (there.getD k (0, 0)).1, fun k p => (there.idxOf (child W tn (there.getD k (0, 0)) p), (W.to (there.getD k (0, 0)).1 p).2)⟩
theorem getD_of {xs : List End} {k : Nat} {e d : End} (h : xs[k]? = some e) : xs.getD k d = e := by simp [h]
theorem idxOf_get {xs : List End} {k : Nat} {e : End} (nd : xs.Nodup) (h : xs[k]? = some e) : xs.idxOf e = k := by
  obtain ⟨hl, he⟩ := List.getElem?_eq_some_iff.mp h
  subst he
  have hm : xs[k] ∈ xs := List.getElem_mem hl
  have hi := List.idxOf_lt_length_of_mem hm
  exact (List.getElem_inj (h₀ := hi) (h₁ := hl) nd).mp (List.getElem_idxOf hi)
theorem ends_ok {W : Web} {sh : Nat} {tn : Nat → Nat → Nat → Nat} {kvs : List (List Int × D)} {there : List End} (ok : W.Ok) (t : TurnOk W sh tn kvs) (b : BI W sh tn there) (cl : ∀ e ∈ there, ∀ p, p < W.deg e.1 → child W tn e p ∈ there) :
    (endsWeb W tn there).Ok ∧ Lead (endsWeb W tn there) W (fun k => (there.getD k (0, 0)).1) := by
  have get : ∀ k, k < there.length → ∃ e, there[k]? = some e ∧ there.getD k (0, 0) = e ∧ e ∈ there := fun k hk => ⟨there[k], List.getElem?_eq_getElem hk, getD_of (List.getElem?_eq_getElem hk), List.getElem_mem hk⟩
  have idx : ∀ e ∈ there, there.idxOf e < there.length ∧ there.getD (there.idxOf e) (0, 0) = e := by
    intro e he
    have hi := List.idxOf_lt_length_of_mem he
    exact ⟨hi, getD_of (by rw [List.getElem?_eq_getElem hi]; exact congrArg some (List.getElem_idxOf hi))⟩
  have pos : 0 < there.length := (List.getElem?_eq_some_iff.mp b.hd).1
  refine ⟨⟨pos, ?_, ?_, ?_, ?_⟩, ⟨?_, fun _ _ => rfl, fun _ _ => rfl, ?_⟩⟩
  · intro k hk
    obtain ⟨e, h1, h2, h3⟩ := get k hk
    simp only [endsWeb, h2]
    exact ok.mrk _ (b.rg e h3).1
  · intro k hk
    obtain ⟨e, h1, h2, h3⟩ := get k hk
    simp only [endsWeb, h2]
    exact ok.dg _ (b.rg e h3).1
  · intro k hk p hp
    obtain ⟨e, h1, h2, h3⟩ := get k hk
    simp only [endsWeb, h2] at hp ⊢
    obtain ⟨e1, e2⟩ := b.rg e h3
    obtain ⟨t1, t2, t3⟩ := ok.tie _ e1 p hp
    have hc := cl e h3 p hp
    obtain ⟨i1, i2⟩ := idx _ hc
    rw [i2]
    refine ⟨i1, t2, ?_⟩
    have : child W tn (child W tn e p) (W.to e.1 p).2 = e := by
      unfold child
      simp only
      rw [t3, t.back _ e1 p hp _ e2]
    rw [this, idxOf_get b.nd h1]
    simp only [child, t3]
  · intro k
    induction k using Nat.strongRecOn with
    | ind k ih =>
      intro hk
      obtain ⟨e, h1, h2, h3⟩ := get k hk
      rcases b.pa k e h1 with rfl | ⟨j, e', p, hj, hje, hp, rfl⟩
      · exact .refl 0
      · have r := ih j hj (by simp only [endsWeb]; have := (List.getElem?_eq_some_iff.mp hje).1; exact this)
        have s := Reach.step (W := endsWeb W tn there) (p := p) r (List.getElem?_eq_some_iff.mp hje).1 (by simp only [endsWeb, getD_of hje]; exact hp)
        simp only [endsWeb, getD_of hje, idxOf_get b.nd h1] at s
        exact s
  · intro k hk
    obtain ⟨e, h1, h2, h3⟩ := get k hk
    simp only [h2]
    exact (b.rg e h3).1
  · intro k hk p hp
    obtain ⟨e, h1, h2, h3⟩ := get k hk
    simp only [endsWeb, h2] at hp ⊢
    obtain ⟨i1, i2⟩ := idx _ (cl e h3 p hp)
    rw [i2]
    rfl
def Cover (cal : Cal) : Prop := ∀ (o : O) (W : Web) (sh : Nat) (st : List O), BoxOk o → W.Ok → W.n ≤ 1000 → 1 ≤ sh → sh ≤ 4 →
    vCO (cal "_law_cover" [.own o, .val (webD W), .val (.int sh)] st) fun r os st' => st' = st ∧ ∃ W' f o', W'.Ok ∧ Lead W' W f ∧ W'.n ≤ W.n * sh ∧ BoxOk o' ∧ r = .val (.tup [webD W', .tup (rowL W'.n f)]) ∧ os = [o']
theorem Cover.use {cal : Cal} (h : Cover cal) {o : O} {W : Web} {sh : Nat} {st : List O} {K : Rt → List O → List O → Prop} (ho : BoxOk o) (h1 : W.Ok) (h2 : W.n ≤ 1000) (h3 : 1 ≤ sh) (h4 : sh ≤ 4)
    (q : ∀ W' f (o' : O), W'.Ok → Lead W' W f → W'.n ≤ W.n * sh → BoxOk o' → K (.val (.tup [webD W', .tup (rowL W'.n f)])) [o'] st) : vCO (cal "_law_cover" [.own o, .val (webD W), .val (.int sh)] st) K := by
  refine v_wCO_mono (h o W sh st ho h1 h2 h3 h4) ?_
  rintro _ _ _ ⟨rfl, W', f, o', h1, h2, h3, h4, rfl, rfl⟩
  exact q W' f o' h1 h2 h3 h4
theorem cover_run {cal : Cal} (hS : Shuf cal) (hTu : Turnings cal) (hR : Renamed cal "_law_renamed") (o : O) (W : Web) (sh : Nat) (st : List O) (ho : BoxOk o) (ok : W.Ok) (hn : W.n ≤ 1000) (h1 : 1 ≤ sh) (h4 : sh ≤ 4) :
    vCO (runFd cal f_Lcover [.own o, .val (webD W), .val (.int sh)] st) fun r os st' => st' = st ∧ ∃ W' f o', W'.Ok ∧ Lead W' W f ∧ W'.n ≤ W.n * sh ∧ BoxOk o' ∧ r = .val (.tup [webD W', .tup (rowL W'.n f)]) ∧ os = [o'] := by
  refine v_wCO_run ⟨rfl, rfl, by decide⟩ ?_
  show V (denBl cal [0] c_Lcover) _ ⟨[.own o, .val (webD W), .val (.int sh), .no, .no, .no, .no, .no, .no, .no, .no, .no, .no, .no, .no, .no], st⟩
  unfold c_Lcover
  simp (disch := first | omega | (simp only [List.length_map, F_len, List.length_append, List.length_cons, List.length_nil] <;> omega)) only [↓vA, uA, Option.bind_some, Option.map_some, Option.bind_none, Option.map_none, List.length_cons, List.length_nil, List.length_map, List.length_append, List.set_cons_zero, List.set_cons_succ, List.set_nil, List.map_cons, List.map_nil, List.cons_append, List.nil_append, List.mem_cons, List.not_mem_nil, Nat.reduceLT, Nat.reduceLeDiff, Nat.reduceAdd, Nat.reduceEqDiff, Nat.zero_add, Nat.lt_add_one, not_false_eq_true, or_false, false_or, or_self, and_true, true_and, and_self, List.getD_cons_zero, List.getD_cons_succ, Nat.succ_ne_self, reduceCtorEq, ne_eq, List.replicate_zero, List.append_nil, Int.reduceToNat, Nat.zero_lt_succ, Nat.reduceSub, Nat.one_ne_zero, Nat.zero_ne_one, f_Lcover]
  refine hTu.use ho ok hn h1 h4 fun kvs tn o1 t hb1 => ?_
  simp (disch := first | omega | (simp only [List.length_map, F_len, List.length_append, List.length_cons, List.length_nil] <;> omega)) only [↓vA, uA, Option.bind_some, Option.map_some, Option.bind_none, Option.map_none, List.length_cons, List.length_nil, List.length_map, List.length_append, List.set_cons_zero, List.set_cons_succ, List.set_nil, List.map_cons, List.map_nil, List.cons_append, List.nil_append, List.mem_cons, List.not_mem_nil, Nat.reduceLT, Nat.reduceLeDiff, Nat.reduceAdd, Nat.reduceEqDiff, Nat.zero_add, Nat.lt_add_one, not_false_eq_true, or_false, false_or, or_self, and_true, true_and, and_self, List.getD_cons_zero, List.getD_cons_succ, Nat.succ_ne_self, reduceCtorEq, ne_eq, List.replicate_zero, List.append_nil, Int.reduceToNat, Nat.zero_lt_succ, Nat.reduceSub, Nat.one_ne_zero, Nat.zero_ne_one]
  have hN : W.n * sh ≤ 4000 := by
    have := Nat.mul_le_mul hn h4
    omega
  refine while_W (fun m s => ∃ (there : List End) (at_ : Nat) (x9 x10 x13 x14 x15 : Sl), m = W.n * sh - at_ ∧ at_ ≤ there.length ∧ BI W sh tn there ∧ (∀ i e, i < at_ → there[i]? = some e → ∀ p, p < W.deg e.1 → child W tn e p ∈ there) ∧
      s = ⟨[.own o1, .val (webD W), .val (.int sh), .own (.dt kvs), .own (.lst (there.map pD)), .val (.int (at_ : Nat)), .no, .no, .no, x9, x10, .no, .no, x13, x14, x15], st⟩) ?_ (n := W.n * sh - 0) (by omega) ?_
  · rintro m s ⟨there, at_, x9, x10, x13, x14, x15, rfl, ha, b, cl, rfl⟩
    have hl := nodup_pairs b.nd b.rg
    simp (disch := first | omega | (simp only [List.length_map, F_len, List.length_append, List.length_cons, List.length_nil] <;> omega)) only [↓vA, uA, Option.bind_some, Option.map_some, Option.bind_none, Option.map_none, List.length_cons, List.length_nil, List.length_map, List.length_append, List.set_cons_zero, List.set_cons_succ, List.set_nil, List.map_cons, List.map_nil, List.cons_append, List.nil_append, List.mem_cons, List.not_mem_nil, Nat.reduceLT, Nat.reduceLeDiff, Nat.reduceAdd, Nat.reduceEqDiff, Nat.zero_add, Nat.lt_add_one, not_false_eq_true, or_false, false_or, or_self, and_true, true_and, and_self, List.getD_cons_zero, List.getD_cons_succ, Nat.succ_ne_self, reduceCtorEq, ne_eq, List.replicate_zero, List.append_nil, Int.reduceToNat, Nat.zero_lt_succ, Nat.reduceSub, Nat.one_ne_zero, Nat.zero_ne_one]
    refine v_wIf_dec (fun e => ?_) (fun e => ?_)
    · have hg : there[at_]? = some (there.getD at_ (0, 0)) := by simp [e]
      have hm : there.getD at_ (0, 0) ∈ there := getD_mem e
      generalize there.getD at_ (0, 0) = q at hg hm
      obtain ⟨r1, r2⟩ := b.rg q hm
      have hg2 : (there.map pD)[at_]? = some (pD q) := by rw [List.getElem?_map, hg]; rfl
      simp (disch := first | omega | (simp only [List.length_map, F_len, List.length_append, List.length_cons, List.length_nil] <;> omega)) only [↓vA, uA, Option.bind_some, Option.map_some, Option.bind_none, Option.map_none, List.length_cons, List.length_nil, List.length_map, List.length_append, List.set_cons_zero, List.set_cons_succ, List.set_nil, List.map_cons, List.map_nil, List.cons_append, List.nil_append, List.mem_cons, List.not_mem_nil, Nat.reduceLT, Nat.reduceLeDiff, Nat.reduceAdd, Nat.reduceEqDiff, Nat.zero_add, Nat.lt_add_one, not_false_eq_true, or_false, false_or, or_self, and_true, true_and, and_self, List.getD_cons_zero, List.getD_cons_succ, Nat.succ_ne_self, reduceCtorEq, ne_eq, List.replicate_zero, List.append_nil, Int.reduceToNat, Nat.zero_lt_succ, Nat.reduceSub, Nat.one_ne_zero, Nat.zero_ne_one, hg2, items_p, ct_web, idx_web, ct_hand, idx_hand1, items_pegs]
      refine for_ix (fun k s => ∃ (th : List End) (x13 x14 x15 : Sl), (∃ l, th = there ++ l) ∧ BI W sh tn th ∧ (∀ p, p < k → child W tn q p ∈ th) ∧
        s = ⟨[.own o1, .val (webD W), .val (.int sh), .own (.dt kvs), .own (.lst (th.map pD)), .val (.int (at_ : Nat)), .no, .no, .no, .val (.int (q.1 : Nat)), .val (.int (q.2 : Nat)), .no, .no, x13, x14, x15], st⟩) ?_ ?_ ?_
      · exact ⟨there, _, _, _, ⟨[], by simp⟩, b, fun p hp => by omega, rfl⟩
      · rintro k hk s ⟨th, x13, x14, x15, ⟨l, rfl⟩, bt, ct, rfl⟩
        have hl2 : there.length + l.length ≤ W.n * sh := by simpa using nodup_pairs bt.nd bt.rg
        have lk := t.get q.1 r1 k hk
        have lt := t.lt q.1 r1 k hk q.2 r2
        obtain ⟨t1, t2, t3⟩ := ok.tie q.1 r1 k hk
        simp (disch := first | omega | (simp only [List.length_map, F_len, List.length_append, List.length_cons, List.length_nil] <;> omega)) only [↓vA, uA, Option.bind_some, Option.map_some, Option.bind_none, Option.map_none, List.length_cons, List.length_nil, List.length_map, List.length_append, List.set_cons_zero, List.set_cons_succ, List.set_nil, List.map_cons, List.map_nil, List.cons_append, List.nil_append, List.mem_cons, List.not_mem_nil, Nat.reduceLT, Nat.reduceLeDiff, Nat.reduceAdd, Nat.reduceEqDiff, Nat.zero_add, Nat.lt_add_one, not_false_eq_true, or_false, false_or, or_self, and_true, true_and, and_self, List.getD_cons_zero, List.getD_cons_succ, Nat.succ_ne_self, reduceCtorEq, ne_eq, List.replicate_zero, List.append_nil, Int.reduceToNat, Nat.zero_lt_succ, Nat.reduceSub, Nat.one_ne_zero, Nat.zero_ne_one, items_p, lk, rowL]
        simp (disch := first | omega | (simp only [List.length_map, F_len, List.length_append, List.length_cons, List.length_nil] <;> omega)) only [↓vA, uA, Option.bind_some, Option.map_some, Option.bind_none, Option.map_none, List.length_cons, List.length_nil, List.length_map, List.length_append, List.set_cons_zero, List.set_cons_succ, List.set_nil, List.map_cons, List.map_nil, List.cons_append, List.nil_append, List.mem_cons, List.not_mem_nil, Nat.reduceLT, Nat.reduceLeDiff, Nat.reduceAdd, Nat.reduceEqDiff, Nat.zero_add, Nat.lt_add_one, not_false_eq_true, or_false, false_or, or_self, and_true, true_and, and_self, List.getD_cons_zero, List.getD_cons_succ, Nat.succ_ne_self, reduceCtorEq, ne_eq, List.replicate_zero, List.append_nil, Int.reduceToNat, Nat.zero_lt_succ, Nat.reduceSub, Nat.one_ne_zero, Nat.zero_ne_one, pD_mk, ct_p, cmp_notin, in_pairs]
        refine v_wBr_split (fun e => ?_) (fun e => ?_)
        · have hn : child W tn q k ∉ there ++ l := by
            intro hc
            have e2 : (!decide (child W tn q k ∈ there ++ l)) = true := e
            rw [decide_eq_true hc] at e2
            cases e2
          simp (disch := first | omega | (simp only [List.length_map, F_len, List.length_append, List.length_cons, List.length_nil] <;> omega)) only [↓vA, uA, Option.bind_some, Option.map_some, Option.bind_none, Option.map_none, List.length_cons, List.length_nil, List.length_map, List.length_append, List.set_cons_zero, List.set_cons_succ, List.set_nil, List.map_cons, List.map_nil, List.cons_append, List.nil_append, List.mem_cons, List.not_mem_nil, Nat.reduceLT, Nat.reduceLeDiff, Nat.reduceAdd, Nat.reduceEqDiff, Nat.zero_add, Nat.lt_add_one, not_false_eq_true, or_false, false_or, or_self, and_true, true_and, and_self, List.getD_cons_zero, List.getD_cons_succ, Nat.succ_ne_self, reduceCtorEq, ne_eq, List.replicate_zero, List.append_nil, Int.reduceToNat, Nat.zero_lt_succ, Nat.reduceSub, Nat.one_ne_zero, Nat.zero_ne_one, lk, rowL]
          refine ⟨there ++ l ++ [child W tn q k], _, _, _, ⟨l ++ [child W tn q k], by simp⟩, bt.add (at_ := at_) (by rw [List.getElem?_append_left (by assumption)]; exact hg) hk hn ⟨t1, lt⟩, ?_, by simp only [List.map_append]; rfl⟩
          intro p hp
          by_cases e : p = k
          · subst e; simp
          · exact List.mem_append_left _ (ct p (by omega))
        · have hc : child W tn q k ∈ there ++ l := by
            have e2 : (!decide (child W tn q k ∈ there ++ l)) = false := e
            by_cases hc : child W tn q k ∈ there ++ l
            · exact hc
            · rw [decide_eq_false hc] at e2; cases e2
          simp (disch := first | omega | (simp only [List.length_map, F_len, List.length_append, List.length_cons, List.length_nil] <;> omega)) only [↓vA, uA, Option.bind_some, Option.map_some, Option.bind_none, Option.map_none, List.length_cons, List.length_nil, List.length_map, List.length_append, List.set_cons_zero, List.set_cons_succ, List.set_nil, List.map_cons, List.map_nil, List.cons_append, List.nil_append, List.mem_cons, List.not_mem_nil, Nat.reduceLT, Nat.reduceLeDiff, Nat.reduceAdd, Nat.reduceEqDiff, Nat.zero_add, Nat.lt_add_one, not_false_eq_true, or_false, false_or, or_self, and_true, true_and, and_self, List.getD_cons_zero, List.getD_cons_succ, Nat.succ_ne_self, reduceCtorEq, ne_eq, List.replicate_zero, List.append_nil, Int.reduceToNat, Nat.zero_lt_succ, Nat.reduceSub, Nat.one_ne_zero, Nat.zero_ne_one]
          refine ⟨there ++ l, _, _, _, ⟨l, rfl⟩, bt, ?_, rfl⟩
          intro p hp
          by_cases e : p = k
          · subst e; exact hc
          · exact ct p (by omega)
      · rintro s ⟨th, x13, x14, x15, ⟨l, rfl⟩, bt, ct, rfl⟩
        have hl2 : there.length + l.length ≤ W.n * sh := by simpa using nodup_pairs bt.nd bt.rg
        simp (disch := first | omega | (simp only [List.length_map, F_len, List.length_append, List.length_cons, List.length_nil] <;> omega)) only [↓vA, uA, Option.bind_some, Option.map_some, Option.bind_none, Option.map_none, List.length_cons, List.length_nil, List.length_map, List.length_append, List.set_cons_zero, List.set_cons_succ, List.set_nil, List.map_cons, List.map_nil, List.cons_append, List.nil_append, List.mem_cons, List.not_mem_nil, Nat.reduceLT, Nat.reduceLeDiff, Nat.reduceAdd, Nat.reduceEqDiff, Nat.zero_add, Nat.lt_add_one, not_false_eq_true, or_false, false_or, or_self, and_true, true_and, and_self, List.getD_cons_zero, List.getD_cons_succ, Nat.succ_ne_self, reduceCtorEq, ne_eq, List.replicate_zero, List.append_nil, Int.reduceToNat, Nat.zero_lt_succ, Nat.reduceSub, Nat.one_ne_zero, Nat.zero_ne_one]
        refine ⟨W.n * sh - (at_ + 1), by omega, there ++ l, at_ + 1, _, _, _, _, _, rfl, ?_, bt, ?_, rfl⟩
        · simp; omega
        · intro i e hi he p hp
          by_cases h : i = at_
          · subst h
            rw [List.getElem?_append_left (by assumption), hg] at he
            cases he
            exact ct p hp
          · rw [List.getElem?_append_left (by omega)] at he
            exact List.mem_append_left _ (cl i e (by omega) he p hp)
    · have e3 : at_ = there.length := by omega
      subst e3
      have cl2 : ∀ e ∈ there, ∀ p, p < W.deg e.1 → child W tn e p ∈ there := by
        intro e he p hp
        obtain ⟨i, hi, rfl⟩ := List.getElem_of_mem he
        exact cl i _ hi (List.getElem?_eq_getElem hi) p hp
      clear cl e ha
      obtain ⟨okC, ldC⟩ := ends_ok ok t b cl2
      simp (disch := first | omega | (simp only [List.length_map, F_len, List.length_append, List.length_cons, List.length_nil] <;> omega)) only [↓vA, uA, Option.bind_some, Option.map_some, Option.bind_none, Option.map_none, List.length_cons, List.length_nil, List.length_map, List.length_append, List.set_cons_zero, List.set_cons_succ, List.set_nil, List.map_cons, List.map_nil, List.cons_append, List.nil_append, List.mem_cons, List.not_mem_nil, Nat.reduceLT, Nat.reduceLeDiff, Nat.reduceAdd, Nat.reduceEqDiff, Nat.zero_add, Nat.lt_add_one, not_false_eq_true, or_false, false_or, or_self, and_true, true_and, and_self, List.getD_cons_zero, List.getD_cons_succ, Nat.succ_ne_self, reduceCtorEq, ne_eq, List.replicate_zero, List.append_nil, Int.reduceToNat, Nat.zero_lt_succ, Nat.reduceSub, Nat.one_ne_zero, Nat.zero_ne_one]
      rw [List.map_map]
      refine for_list (fun e => Itm.v (pD e)) (fun r s => ∃ (pre : List End) (x9 x10 x11 : Sl), there = pre ++ r ∧
        s = ⟨[.own o1, .val (webD W), .val (.int sh), .own (.dt kvs), .val (.lst (there.map pD)), .val (.int (there.length : Nat)), .own (.lst (F pre.length (handD (endsWeb W tn there)))), .no, .no, x9, x10, x11, .no, x13, x14, x15], st⟩) ?_ ?_ there _ ?_
      · rintro q r s ⟨pre, y9, y10, y11, hpre, rfl⟩
        have hq : q ∈ there := by rw [hpre]; simp
        have hg : there.getD pre.length (0, 0) = q := by rw [hpre]; simp
        have hpl : pre.length < there.length := by rw [hpre]; simp
        obtain ⟨r1, r2⟩ := b.rg q hq
        have dg := ok.dg q.1 r1
        simp (disch := first | omega | (simp only [List.length_map, F_len, List.length_append, List.length_cons, List.length_nil] <;> omega)) only [↓vA, uA, Option.bind_some, Option.map_some, Option.bind_none, Option.map_none, List.length_cons, List.length_nil, List.length_map, List.length_append, List.set_cons_zero, List.set_cons_succ, List.set_nil, List.map_cons, List.map_nil, List.cons_append, List.nil_append, List.mem_cons, List.not_mem_nil, Nat.reduceLT, Nat.reduceLeDiff, Nat.reduceAdd, Nat.reduceEqDiff, Nat.zero_add, Nat.lt_add_one, not_false_eq_true, or_false, false_or, or_self, and_true, true_and, and_self, List.getD_cons_zero, List.getD_cons_succ, Nat.succ_ne_self, reduceCtorEq, ne_eq, List.replicate_zero, List.append_nil, Int.reduceToNat, Nat.zero_lt_succ, Nat.reduceSub, Nat.one_ne_zero, Nat.zero_ne_one, items_p, ct_web, idx_web, ct_hand, idx_hand1, items_pegs]
        refine lc_map (fun p => pD (there.idxOf (child W tn q p), (W.to q.1 p).2)) ?_ (fun p hp => ?_) ?_
        · omega
        · have lk := t.get q.1 r1 p hp
          have lt := t.lt q.1 r1 p hp q.2 r2
          simp (disch := first | omega | (simp only [List.length_map, F_len, List.length_append, List.length_cons, List.length_nil] <;> omega)) only [↓vA, uA, Option.bind_some, Option.map_some, Option.bind_none, Option.map_none, List.length_cons, List.length_nil, List.length_map, List.length_append, List.set_cons_zero, List.set_cons_succ, List.set_nil, List.map_cons, List.map_nil, List.cons_append, List.nil_append, List.mem_cons, List.not_mem_nil, Nat.reduceLT, Nat.reduceLeDiff, Nat.reduceAdd, Nat.reduceEqDiff, Nat.zero_add, Nat.lt_add_one, not_false_eq_true, or_false, false_or, or_self, and_true, true_and, and_self, List.getD_cons_zero, List.getD_cons_succ, Nat.succ_ne_self, reduceCtorEq, ne_eq, List.replicate_zero, List.append_nil, Int.reduceToNat, Nat.zero_lt_succ, Nat.reduceSub, Nat.one_ne_zero, Nat.zero_ne_one, items_p, lk, rowL]
          simp (disch := first | omega | (simp only [List.length_map, F_len, List.length_append, List.length_cons, List.length_nil] <;> omega)) only [↓vA, uA, Option.bind_some, Option.map_some, Option.bind_none, Option.map_none, List.length_cons, List.length_nil, List.length_map, List.length_append, List.set_cons_zero, List.set_cons_succ, List.set_nil, List.map_cons, List.map_nil, List.cons_append, List.nil_append, List.mem_cons, List.not_mem_nil, Nat.reduceLT, Nat.reduceLeDiff, Nat.reduceAdd, Nat.reduceEqDiff, Nat.zero_add, Nat.lt_add_one, not_false_eq_true, or_false, false_or, or_self, and_true, true_and, and_self, List.getD_cons_zero, List.getD_cons_succ, Nat.succ_ne_self, reduceCtorEq, ne_eq, List.replicate_zero, List.append_nil, Int.reduceToNat, Nat.zero_lt_succ, Nat.reduceSub, Nat.one_ne_zero, Nat.zero_ne_one, pD_mk]
          have ix := index_pairs (cl2 q hq p hp)
          unfold child at ix ⊢
          simp (disch := first | omega | (simp only [List.length_map, F_len, List.length_append, List.length_cons, List.length_nil] <;> omega)) only [↓vA, uA, Option.bind_some, Option.map_some, Option.bind_none, Option.map_none, List.length_cons, List.length_nil, List.length_map, List.length_append, List.set_cons_zero, List.set_cons_succ, List.set_nil, List.map_cons, List.map_nil, List.cons_append, List.nil_append, List.mem_cons, List.not_mem_nil, Nat.reduceLT, Nat.reduceLeDiff, Nat.reduceAdd, Nat.reduceEqDiff, Nat.zero_add, Nat.lt_add_one, not_false_eq_true, or_false, false_or, or_self, and_true, true_and, and_self, List.getD_cons_zero, List.getD_cons_succ, Nat.succ_ne_self, reduceCtorEq, ne_eq, List.replicate_zero, List.append_nil, Int.reduceToNat, Nat.zero_lt_succ, Nat.reduceSub, Nat.one_ne_zero, Nat.zero_ne_one, ix, pD_mk]
        simp (disch := first | omega | (simp only [List.length_map, F_len, List.length_append, List.length_cons, List.length_nil] <;> omega)) only [↓vA, uA, Option.bind_some, Option.map_some, Option.bind_none, Option.map_none, List.length_cons, List.length_nil, List.length_map, List.length_append, List.set_cons_zero, List.set_cons_succ, List.set_nil, List.map_cons, List.map_nil, List.cons_append, List.nil_append, List.mem_cons, List.not_mem_nil, Nat.reduceLT, Nat.reduceLeDiff, Nat.reduceAdd, Nat.reduceEqDiff, Nat.zero_add, Nat.lt_add_one, not_false_eq_true, or_false, false_or, or_self, and_true, true_and, and_self, List.getD_cons_zero, List.getD_cons_succ, Nat.succ_ne_self, reduceCtorEq, ne_eq, List.replicate_zero, List.append_nil, Int.reduceToNat, Nat.zero_lt_succ, Nat.reduceSub, Nat.one_ne_zero, Nat.zero_ne_one, ct_web, idx_web, ct_hand, idx_hand0]
        have e : F pre.length (handD (endsWeb W tn there)) ++ [D.tup [.int (W.mark q.1 : Nat), .tup (F (W.deg q.1) fun p => pD (there.idxOf (child W tn q p), (W.to q.1 p).2))]] = F (pre ++ [q]).length (handD (endsWeb W tn there)) := by
          rw [List.length_append, List.length_singleton, F_succ]
          congr 2
          unfold handD pegsD endsWeb
          simp only [hg]
        rw [e]
        exact ⟨pre ++ [q], _, _, _, by rw [hpre]; simp, rfl⟩
      · rintro s ⟨pre, y9, y10, y11, hpre, rfl⟩
        rw [List.append_nil] at hpre
        subst hpre
        simp (disch := first | omega | (simp only [List.length_map, F_len, List.length_append, List.length_cons, List.length_nil] <;> omega)) only [↓vA, uA, Option.bind_some, Option.map_some, Option.bind_none, Option.map_none, List.length_cons, List.length_nil, List.length_map, List.length_append, List.set_cons_zero, List.set_cons_succ, List.set_nil, List.map_cons, List.map_nil, List.cons_append, List.nil_append, List.mem_cons, List.not_mem_nil, Nat.reduceLT, Nat.reduceLeDiff, Nat.reduceAdd, Nat.reduceEqDiff, Nat.zero_add, Nat.lt_add_one, not_false_eq_true, or_false, false_or, or_self, and_true, true_and, and_self, List.getD_cons_zero, List.getD_cons_succ, Nat.succ_ne_self, reduceCtorEq, ne_eq, List.replicate_zero, List.append_nil, Int.reduceToNat, Nat.zero_lt_succ, Nat.reduceSub, Nat.one_ne_zero, Nat.zero_ne_one]
        refine hS.use hb1 (by omega) fun f o2 hf hb2 => ?_
        simp (disch := first | omega | (simp only [List.length_map, F_len, List.length_append, List.length_cons, List.length_nil] <;> omega)) only [↓vA, uA, Option.bind_some, Option.map_some, Option.bind_none, Option.map_none, List.length_cons, List.length_nil, List.length_map, List.length_append, List.set_cons_zero, List.set_cons_succ, List.set_nil, List.map_cons, List.map_nil, List.cons_append, List.nil_append, List.mem_cons, List.not_mem_nil, Nat.reduceLT, Nat.reduceLeDiff, Nat.reduceAdd, Nat.reduceEqDiff, Nat.zero_add, Nat.lt_add_one, not_false_eq_true, or_false, false_or, or_self, and_true, true_and, and_self, List.getD_cons_zero, List.getD_cons_succ, Nat.succ_ne_self, reduceCtorEq, ne_eq, List.replicate_zero, List.append_nil, Int.reduceToNat, Nat.zero_lt_succ, Nat.reduceSub, Nat.one_ne_zero, Nat.zero_ne_one]
        have eF : there.map pD = F there.length (fun k => pD (there.getD k (0, 0))) := by
          refine List.ext_getElem? fun j => ?_
          by_cases hj : j < there.length
          · rw [F_get hj, map_get (d := (0, 0)) hj]
          · rw [F_get_none (by omega), List.getElem?_eq_none (by simp; omega)]
        rw [eF]
        simp (disch := first | omega | (simp only [List.length_map, F_len, List.length_append, List.length_cons, List.length_nil] <;> omega)) only [↓vA, uA, Option.bind_some, Option.map_some, Option.bind_none, Option.map_none, List.length_cons, List.length_nil, List.length_map, List.length_append, List.set_cons_zero, List.set_cons_succ, List.set_nil, List.map_cons, List.map_nil, List.cons_append, List.nil_append, List.mem_cons, List.not_mem_nil, Nat.reduceLT, Nat.reduceLeDiff, Nat.reduceAdd, Nat.reduceEqDiff, Nat.zero_add, Nat.lt_add_one, not_false_eq_true, or_false, false_or, or_self, and_true, true_and, and_self, List.getD_cons_zero, List.getD_cons_succ, Nat.succ_ne_self, reduceCtorEq, ne_eq, List.replicate_zero, List.append_nil, Int.reduceToNat, Nat.zero_lt_succ, Nat.reduceSub, Nat.one_ne_zero, Nat.zero_ne_one]
        refine for_ix (fun k s => ∃ (x9 x10 x12 : Sl), s = ⟨[.own o2, .val (webD W), .val (.int sh), .own (.dt kvs), .val (.lst (F there.length (fun k => pD (there.getD k (0, 0))))), .val (.int (there.length : Nat)), .own (.lst (F there.length (handD (endsWeb W tn there)))), .val (.lst (rowL there.length f)), .own (.lst (F there.length fun j => .int ((if DR.inv there.length f j < k then (there.getD (DR.inv there.length f j) (0, 0)).1 else 0 : Nat) : Int))), x9, x10, y11, x12, x13, x14, x15], st⟩) ?_ ?_ ?_
        · exact ⟨y9, y10, .no, by simp⟩
        · rintro k hk s ⟨x9, x10, x12, rfl⟩
          have hfk := hf.lt k hk
          simp (disch := first | omega | (simp only [List.length_map, F_len, List.length_append, List.length_cons, List.length_nil] <;> omega)) only [↓vA, uA, Option.bind_some, Option.map_some, Option.bind_none, Option.map_none, List.length_cons, List.length_nil, List.length_map, List.length_append, List.set_cons_zero, List.set_cons_succ, List.set_nil, List.map_cons, List.map_nil, List.cons_append, List.nil_append, List.mem_cons, List.not_mem_nil, Nat.reduceLT, Nat.reduceLeDiff, Nat.reduceAdd, Nat.reduceEqDiff, Nat.zero_add, Nat.lt_add_one, not_false_eq_true, or_false, false_or, or_self, and_true, true_and, and_self, List.getD_cons_zero, List.getD_cons_succ, Nat.succ_ne_self, reduceCtorEq, ne_eq, List.replicate_zero, List.append_nil, Int.reduceToNat, Nat.zero_lt_succ, Nat.reduceSub, Nat.one_ne_zero, Nat.zero_ne_one, items_p, rowL]
          have e : F there.length (up (fun j => D.int ((if DR.inv there.length f j < k then (there.getD (DR.inv there.length f j) (0, 0)).1 else 0 : Nat) : Int)) (f k) (.int ((there.getD k (0, 0)).1 : Nat))) = F there.length fun j => .int ((if DR.inv there.length f j < k + 1 then (there.getD (DR.inv there.length f j) (0, 0)).1 else 0 : Nat) : Int) := by
            refine F_ext fun j hj => ?_
            unfold up
            by_cases e : j = f k
            · subst e
              rw [if_pos rfl, hf.inv_f hk, if_pos (by omega)]
            · rw [if_neg e]
              have : DR.inv there.length f j ≠ k := fun h => e (by rw [← hf.f_inv hj, h])
              by_cases h : DR.inv there.length f j < k
              · simp only [h, if_true, Nat.lt_succ_of_lt h]
              · have h' : ¬ DR.inv there.length f j < k + 1 := by omega
                simp only [h, h', if_false]
          rw [e]
          exact ⟨_, _, _, rfl⟩
        · rintro s ⟨x9, x10, x12, rfl⟩
          have eW : D.tup (F there.length (handD (endsWeb W tn there))) = webD (endsWeb W tn there) := rfl
          have hr := hR (endsWeb W tn there) f (.lst (rowL there.length f)) st okC hf (by simp only [endsWeb]; omega) (.inl rfl)
          simp (disch := first | omega | (simp only [List.length_map, F_len, List.length_append, List.length_cons, List.length_nil] <;> omega)) only [↓vA, uA, Option.bind_some, Option.map_some, Option.bind_none, Option.map_none, List.length_cons, List.length_nil, List.length_map, List.length_append, List.set_cons_zero, List.set_cons_succ, List.set_nil, List.map_cons, List.map_nil, List.cons_append, List.nil_append, List.mem_cons, List.not_mem_nil, Nat.reduceLT, Nat.reduceLeDiff, Nat.reduceAdd, Nat.reduceEqDiff, Nat.zero_add, Nat.lt_add_one, not_false_eq_true, or_false, false_or, or_self, and_true, true_and, and_self, List.getD_cons_zero, List.getD_cons_succ, Nat.succ_ne_self, reduceCtorEq, ne_eq, List.replicate_zero, List.append_nil, Int.reduceToNat, Nat.zero_lt_succ, Nat.reduceSub, Nat.one_ne_zero, Nat.zero_ne_one, eW, hr]
          have e : F there.length (fun j => D.int ((if DR.inv there.length f j < there.length then (there.getD (DR.inv there.length f j) (0, 0)).1 else 0 : Nat) : Int)) = rowL there.length (fun j => (there.getD (DR.inv there.length f j) (0, 0)).1) := by
            refine F_ext fun j hj => ?_
            simp only [hf.inv_lt hj, if_true]
          rw [e]
          exact ⟨ren (endsWeb W tn there) f, _, o2, ren_ok okC hf, lead_ren okC hf ldC, hl, hb2, rfl, rfl⟩
      · exact ⟨[], _, _, _, rfl, rfl⟩
  · exact ⟨[(0, 0)], 0, _, _, _, _, _, rfl, by simp, ⟨by simp, by simp; exact ⟨ok.pos, by omega⟩, rfl, fun i e hi => by
      cases i with
      | zero => exact .inl rfl
      | succ i => simp at hi⟩, fun i e hi => by omega, rfl⟩
/-- a web of either sort -/
def AWeb (cal : Cal) : Prop := ∀ (o : O) (most room : Nat) (st : List O), BoxOk o → 1 ≤ most → most ≤ 900 → 2 ≤ room → room ≤ 4 →
    vCO (cal "_law_web" [.own o, .val (.int most), .val (.int room)] st) fun r os st' => ∃ l W o', st' = st ++ l ∧ W.Ok ∧ W.n ≤ most ∧ (∀ h, h < W.n → W.deg h ≤ room) ∧ BoxOk o' ∧ r = .val (webD W) ∧ os = [o']
theorem AWeb.use {cal : Cal} (h : AWeb cal) {o : O} {most room : Nat} {st : List O} {K : Rt → List O → List O → Prop} (ho : BoxOk o) (h1 : 1 ≤ most) (h2 : most ≤ 900) (h3 : 2 ≤ room) (h4 : room ≤ 4)
    (q : ∀ l W (o' : O), W.Ok → W.n ≤ most → (∀ h, h < W.n → W.deg h ≤ room) → BoxOk o' → K (.val (webD W)) [o'] (st ++ l)) : vCO (cal "_law_web" [.own o, .val (.int most), .val (.int room)] st) K := by
  refine v_wCO_mono (h o most room st ho h1 h2 h3 h4) ?_
  rintro _ _ _ ⟨l, W, o', rfl, h1, h2, h3, h4, rfl, rfl⟩
  exact q l W o' h1 h2 h3 h4
theorem AWeb.useL {cal : Cal} (h : AWeb cal) {o : O} {most room : Nat} {st : List O} {K : Rt → List O → List O → Prop} (ho : BoxOk o) (h1 : 1 ≤ (OfNat.ofNat most : Nat)) (h2 : (OfNat.ofNat most : Nat) ≤ 900) (h3 : 2 ≤ (OfNat.ofNat room : Nat)) (h4 : (OfNat.ofNat room : Nat) ≤ 4)
    (q : ∀ l W (o' : O), W.Ok → W.n ≤ (OfNat.ofNat most : Nat) → (∀ h, h < W.n → W.deg h ≤ (OfNat.ofNat room : Nat)) → BoxOk o' → K (.val (webD W)) [o'] (st ++ l)) : vCO (cal "_law_web" [.own o, .val (.int (OfNat.ofNat most)), .val (.int (OfNat.ofNat room))] st) K := h.use ho h1 h2 h3 h4 q
theorem web_run {cal : Cal} (hT : Take cal) (hP : PlainWeb cal) (hC : Cover cal) (o : O) (most room : Nat) (st : List O) (ho : BoxOk o) (h1 : 1 ≤ most) (h2 : most ≤ 900) (h3 : 2 ≤ room) (h4 : room ≤ 4) :
    vCO (runFd cal f_Lweb [.own o, .val (.int most), .val (.int room)] st) fun r os st' => ∃ l W o', st' = st ++ l ∧ W.Ok ∧ W.n ≤ most ∧ (∀ h, h < W.n → W.deg h ≤ room) ∧ BoxOk o' ∧ r = .val (webD W) ∧ os = [o'] := by
  refine v_wCO_run ⟨rfl, rfl, by decide⟩ ?_
  show V (denBl cal [0] c_Lweb) _ ⟨[.own o, .val (.int most), .val (.int room), .no, .no], st⟩
  unfold c_Lweb
  simp (disch := first | omega | (simp only [List.length_map, F_len, List.length_append, List.length_cons, List.length_nil] <;> omega)) only [↓vA, uA, Option.bind_some, Option.map_some, Option.bind_none, Option.map_none, List.length_cons, List.length_nil, List.length_map, List.length_append, List.set_cons_zero, List.set_cons_succ, List.set_nil, List.map_cons, List.map_nil, List.cons_append, List.nil_append, List.mem_cons, List.not_mem_nil, Nat.reduceLT, Nat.reduceLeDiff, Nat.reduceAdd, Nat.reduceEqDiff, Nat.zero_add, Nat.lt_add_one, not_false_eq_true, or_false, false_or, or_self, and_true, true_and, and_self, List.getD_cons_zero, List.getD_cons_succ, Nat.succ_ne_self, reduceCtorEq, ne_eq, List.replicate_zero, List.append_nil, Int.reduceToNat, Nat.zero_lt_succ, Nat.reduceSub, Nat.one_ne_zero, Nat.zero_ne_one, f_Lweb]
  refine hT.useL ho (by omega) (by omega) fun a o1 ha hb1 => ?_
  simp (disch := first | omega | (simp only [List.length_map, F_len, List.length_append, List.length_cons, List.length_nil] <;> omega)) only [↓vA, uA, Option.bind_some, Option.map_some, Option.bind_none, Option.map_none, List.length_cons, List.length_nil, List.length_map, List.length_append, List.set_cons_zero, List.set_cons_succ, List.set_nil, List.map_cons, List.map_nil, List.cons_append, List.nil_append, List.mem_cons, List.not_mem_nil, Nat.reduceLT, Nat.reduceLeDiff, Nat.reduceAdd, Nat.reduceEqDiff, Nat.zero_add, Nat.lt_add_one, not_false_eq_true, or_false, false_or, or_self, and_true, true_and, and_self, List.getD_cons_zero, List.getD_cons_succ, Nat.succ_ne_self, reduceCtorEq, ne_eq, List.replicate_zero, List.append_nil, Int.reduceToNat, Nat.zero_lt_succ, Nat.reduceSub, Nat.one_ne_zero, Nat.zero_ne_one]
  refine v_wBo_orD (fun e => ?_) (fun e => ?_)
  · simp (disch := first | omega | (simp only [List.length_map, F_len, List.length_append, List.length_cons, List.length_nil] <;> omega)) only [↓vA, uA, Option.bind_some, Option.map_some, Option.bind_none, Option.map_none, List.length_cons, List.length_nil, List.length_map, List.length_append, List.set_cons_zero, List.set_cons_succ, List.set_nil, List.map_cons, List.map_nil, List.cons_append, List.nil_append, List.mem_cons, List.not_mem_nil, Nat.reduceLT, Nat.reduceLeDiff, Nat.reduceAdd, Nat.reduceEqDiff, Nat.zero_add, Nat.lt_add_one, not_false_eq_true, or_false, false_or, or_self, and_true, true_and, and_self, List.getD_cons_zero, List.getD_cons_succ, Nat.succ_ne_self, reduceCtorEq, ne_eq, List.replicate_zero, List.append_nil, Int.reduceToNat, Nat.zero_lt_succ, Nat.reduceSub, Nat.one_ne_zero, Nat.zero_ne_one]
    refine hP.use hb1 h1 h2 h3 h4 fun l W o2 okW hn hd hb2 => ?_
    simp (disch := first | omega | (simp only [List.length_map, F_len, List.length_append, List.length_cons, List.length_nil] <;> omega)) only [↓vA, uA, Option.bind_some, Option.map_some, Option.bind_none, Option.map_none, List.length_cons, List.length_nil, List.length_map, List.length_append, List.set_cons_zero, List.set_cons_succ, List.set_nil, List.map_cons, List.map_nil, List.cons_append, List.nil_append, List.mem_cons, List.not_mem_nil, Nat.reduceLT, Nat.reduceLeDiff, Nat.reduceAdd, Nat.reduceEqDiff, Nat.zero_add, Nat.lt_add_one, not_false_eq_true, or_false, false_or, or_self, and_true, true_and, and_self, List.getD_cons_zero, List.getD_cons_succ, Nat.succ_ne_self, reduceCtorEq, ne_eq, List.replicate_zero, List.append_nil, Int.reduceToNat, Nat.zero_lt_succ, Nat.reduceSub, Nat.one_ne_zero, Nat.zero_ne_one]
    exact ⟨l, W, o2, rfl, okW, hn, fun h _ => hd h, hb2, rfl, rfl⟩
  · simp (disch := first | omega | (simp only [List.length_map, F_len, List.length_append, List.length_cons, List.length_nil] <;> omega)) only [↓vA, uA, Option.bind_some, Option.map_some, Option.bind_none, Option.map_none, List.length_cons, List.length_nil, List.length_map, List.length_append, List.set_cons_zero, List.set_cons_succ, List.set_nil, List.map_cons, List.map_nil, List.cons_append, List.nil_append, List.mem_cons, List.not_mem_nil, Nat.reduceLT, Nat.reduceLeDiff, Nat.reduceAdd, Nat.reduceEqDiff, Nat.zero_add, Nat.lt_add_one, not_false_eq_true, or_false, false_or, or_self, and_true, true_and, and_self, List.getD_cons_zero, List.getD_cons_succ, Nat.succ_ne_self, reduceCtorEq, ne_eq, List.replicate_zero, List.append_nil, Int.reduceToNat, Nat.zero_lt_succ, Nat.reduceSub, Nat.one_ne_zero, Nat.zero_ne_one]
    refine v_wBr_dec (fun e => ?_) (fun e => ?_)
    · simp (disch := first | omega | (simp only [List.length_map, F_len, List.length_append, List.length_cons, List.length_nil] <;> omega)) only [↓vA, uA, Option.bind_some, Option.map_some, Option.bind_none, Option.map_none, List.length_cons, List.length_nil, List.length_map, List.length_append, List.set_cons_zero, List.set_cons_succ, List.set_nil, List.map_cons, List.map_nil, List.cons_append, List.nil_append, List.mem_cons, List.not_mem_nil, Nat.reduceLT, Nat.reduceLeDiff, Nat.reduceAdd, Nat.reduceEqDiff, Nat.zero_add, Nat.lt_add_one, not_false_eq_true, or_false, false_or, or_self, and_true, true_and, and_self, List.getD_cons_zero, List.getD_cons_succ, Nat.succ_ne_self, reduceCtorEq, ne_eq, List.replicate_zero, List.append_nil, Int.reduceToNat, Nat.zero_lt_succ, Nat.reduceSub, Nat.one_ne_zero, Nat.zero_ne_one]
      refine hP.use hb1 h1 h2 h3 h4 fun l W o2 okW hn hd hb2 => ?_
      simp (disch := first | omega | (simp only [List.length_map, F_len, List.length_append, List.length_cons, List.length_nil] <;> omega)) only [↓vA, uA, Option.bind_some, Option.map_some, Option.bind_none, Option.map_none, List.length_cons, List.length_nil, List.length_map, List.length_append, List.set_cons_zero, List.set_cons_succ, List.set_nil, List.map_cons, List.map_nil, List.cons_append, List.nil_append, List.mem_cons, List.not_mem_nil, Nat.reduceLT, Nat.reduceLeDiff, Nat.reduceAdd, Nat.reduceEqDiff, Nat.zero_add, Nat.lt_add_one, not_false_eq_true, or_false, false_or, or_self, and_true, true_and, and_self, List.getD_cons_zero, List.getD_cons_succ, Nat.succ_ne_self, reduceCtorEq, ne_eq, List.replicate_zero, List.append_nil, Int.reduceToNat, Nat.zero_lt_succ, Nat.reduceSub, Nat.one_ne_zero, Nat.zero_ne_one]
      exact ⟨l, W, o2, rfl, okW, hn, fun h _ => hd h, hb2, rfl, rfl⟩
    · simp (disch := first | omega | (simp only [List.length_map, F_len, List.length_append, List.length_cons, List.length_nil] <;> omega)) only [↓vA, uA, Option.bind_some, Option.map_some, Option.bind_none, Option.map_none, List.length_cons, List.length_nil, List.length_map, List.length_append, List.set_cons_zero, List.set_cons_succ, List.set_nil, List.map_cons, List.map_nil, List.cons_append, List.nil_append, List.mem_cons, List.not_mem_nil, Nat.reduceLT, Nat.reduceLeDiff, Nat.reduceAdd, Nat.reduceEqDiff, Nat.zero_add, Nat.lt_add_one, not_false_eq_true, or_false, false_or, or_self, and_true, true_and, and_self, List.getD_cons_zero, List.getD_cons_succ, Nat.succ_ne_self, reduceCtorEq, ne_eq, List.replicate_zero, List.append_nil, Int.reduceToNat, Nat.zero_lt_succ, Nat.reduceSub, Nat.one_ne_zero, Nat.zero_ne_one]
      refine hT.use hb1 (by omega) (by omega) fun b o2 hb hb2 => ?_
      simp (disch := first | omega | (simp only [List.length_map, F_len, List.length_append, List.length_cons, List.length_nil] <;> omega)) only [↓vA, uA, Option.bind_some, Option.map_some, Option.bind_none, Option.map_none, List.length_cons, List.length_nil, List.length_map, List.length_append, List.set_cons_zero, List.set_cons_succ, List.set_nil, List.map_cons, List.map_nil, List.cons_append, List.nil_append, List.mem_cons, List.not_mem_nil, Nat.reduceLT, Nat.reduceLeDiff, Nat.reduceAdd, Nat.reduceEqDiff, Nat.zero_add, Nat.lt_add_one, not_false_eq_true, or_false, false_or, or_self, and_true, true_and, and_self, List.getD_cons_zero, List.getD_cons_succ, Nat.succ_ne_self, reduceCtorEq, ne_eq, List.replicate_zero, List.append_nil, Int.reduceToNat, Nat.zero_lt_succ, Nat.reduceSub, Nat.one_ne_zero, Nat.zero_ne_one]
      have e1 : most / (2 + b) ≤ most := Nat.div_le_self _ _
      refine hP.use hb2 (by omega) (by omega) h3 h4 fun l W o3 okW hn hd hb3 => ?_
      simp (disch := first | omega | (simp only [List.length_map, F_len, List.length_append, List.length_cons, List.length_nil] <;> omega)) only [↓vA, uA, Option.bind_some, Option.map_some, Option.bind_none, Option.map_none, List.length_cons, List.length_nil, List.length_map, List.length_append, List.set_cons_zero, List.set_cons_succ, List.set_nil, List.map_cons, List.map_nil, List.cons_append, List.nil_append, List.mem_cons, List.not_mem_nil, Nat.reduceLT, Nat.reduceLeDiff, Nat.reduceAdd, Nat.reduceEqDiff, Nat.zero_add, Nat.lt_add_one, not_false_eq_true, or_false, false_or, or_self, and_true, true_and, and_self, List.getD_cons_zero, List.getD_cons_succ, Nat.succ_ne_self, reduceCtorEq, ne_eq, List.replicate_zero, List.append_nil, Int.reduceToNat, Nat.zero_lt_succ, Nat.reduceSub, Nat.one_ne_zero, Nat.zero_ne_one]
      refine hC.use hb3 okW (by omega) (by omega) (by omega) fun W' f o4 okW' ld hn' hb4 => ?_
      simp (disch := first | omega | (simp only [List.length_map, F_len, List.length_append, List.length_cons, List.length_nil] <;> omega)) only [↓vA, uA, Option.bind_some, Option.map_some, Option.bind_none, Option.map_none, List.length_cons, List.length_nil, List.length_map, List.length_append, List.set_cons_zero, List.set_cons_succ, List.set_nil, List.map_cons, List.map_nil, List.cons_append, List.nil_append, List.mem_cons, List.not_mem_nil, Nat.reduceLT, Nat.reduceLeDiff, Nat.reduceAdd, Nat.reduceEqDiff, Nat.zero_add, Nat.lt_add_one, not_false_eq_true, or_false, false_or, or_self, and_true, true_and, and_self, List.getD_cons_zero, List.getD_cons_succ, Nat.succ_ne_self, reduceCtorEq, ne_eq, List.replicate_zero, List.append_nil, Int.reduceToNat, Nat.zero_lt_succ, Nat.reduceSub, Nat.one_ne_zero, Nat.zero_ne_one]
      refine ⟨l, W', o4, rfl, okW', ?_, fun h hh => by rw [← ld.deg h hh]; exact hd _, hb4, rfl, rfl⟩
      have e2 : 1 ≤ most / (2 + b) := (Nat.le_div_iff_mul_le (by omega)).mpr (by omega)
      have e3 : W.n * (2 + b) ≤ most / (2 + b) * (2 + b) := Nat.mul_le_mul_right _ (by omega)
      have e4 := Nat.div_mul_le_self most (2 + b)
      omega
end NH.DR

set_option Elab.async false
set_option linter.all false
set_option maxRecDepth 100000
set_option maxHeartbeats 1000000
set_option autoImplicit false
namespace NH.DR
open PySem L2
theorem is_istuple_lst {xs : List D} : blt1 .istuple (.o (.lst xs)) = some (.val (.bl false)) := by simp [blt1, tyCt]
theorem is_islist_lst {xs : List D} : blt1 .islist (.o (.lst xs)) = some (.val (.bl true)) := by simp [blt1, tyCt]
theorem is_isbool_lst {xs : List D} : blt1 .isbool (.o (.lst xs)) = some (.val (.bl false)) := by simp [blt1, tyCt]
theorem is_islt_lst {xs : List D} : blt1 .islt (.o (.lst xs)) = some (.val (.bl true)) := by simp [blt1, tyCt]
theorem is_istuple_tup {xs : List D} : blt1 .istuple (.d (.tup xs)) = some (.val (.bl true)) := by simp [blt1, tyCt]
theorem is_islist_tup {xs : List D} : blt1 .islist (.d (.tup xs)) = some (.val (.bl false)) := by simp [blt1, tyCt]
theorem is_isbool_tup {xs : List D} : blt1 .isbool (.d (.tup xs)) = some (.val (.bl false)) := by simp [blt1, tyCt]
theorem is_islt_tup {xs : List D} : blt1 .islt (.d (.tup xs)) = some (.val (.bl true)) := by simp [blt1, tyCt]
theorem is_istuple_int {i : Int} : blt1 .istuple (.d (.int i)) = some (.val (.bl false)) := by simp [blt1, tyCt]
theorem is_islist_int {i : Int} : blt1 .islist (.d (.int i)) = some (.val (.bl false)) := by simp [blt1, tyCt]
theorem is_isbool_int {i : Int} : blt1 .isbool (.d (.int i)) = some (.val (.bl false)) := by simp [blt1, tyCt]
theorem is_islt_int {i : Int} : blt1 .islt (.d (.int i)) = some (.val (.bl false)) := by simp [blt1, tyCt]
theorem is_istuple_bl {i : Bool} : blt1 .istuple (.d (.bl i)) = some (.val (.bl false)) := by simp [blt1, tyCt]
theorem is_islist_bl {i : Bool} : blt1 .islist (.d (.bl i)) = some (.val (.bl false)) := by simp [blt1, tyCt]
theorem is_isbool_bl {i : Bool} : blt1 .isbool (.d (.bl i)) = some (.val (.bl true)) := by simp [blt1, tyCt]
theorem is_islt_bl {i : Bool} : blt1 .islt (.d (.bl i)) = some (.val (.bl false)) := by simp [blt1, tyCt]
theorem is_istuple_str {i : Str} : blt1 .istuple (.d (.str i)) = some (.val (.bl false)) := by simp [blt1, tyCt]
theorem is_islist_str {i : Str} : blt1 .islist (.d (.str i)) = some (.val (.bl false)) := by simp [blt1, tyCt]
theorem is_isbool_str {i : Str} : blt1 .isbool (.d (.str i)) = some (.val (.bl false)) := by simp [blt1, tyCt]
theorem is_islt_str {i : Str} : blt1 .islt (.d (.str i)) = some (.val (.bl false)) := by simp [blt1, tyCt]
theorem is_istuple_non  : blt1 .istuple (.d .non) = some (.val (.bl false)) := by simp [blt1, tyCt]
theorem is_islist_non  : blt1 .islist (.d .non) = some (.val (.bl false)) := by simp [blt1, tyCt]
theorem is_isbool_non  : blt1 .isbool (.d .non) = some (.val (.bl false)) := by simp [blt1, tyCt]
theorem is_islt_non  : blt1 .islt (.d .non) = some (.val (.bl false)) := by simp [blt1, tyCt]
/-! ### _law_alike -/
inductive Al : Nat → D → Prop
  | non {n : Nat} : Al n .non
  | int {n : Nat} {i : Int} : Al n (.int i)
  | bl {n : Nat} {b : Bool} : Al n (.bl b)
  | tup {n : Nat} {xs : List D} : (∀ x ∈ xs, Al n x) → xs.length ≤ 1000000 → Al (n + 1) (.tup xs)
  | lst {n : Nat} {xs : List D} : (∀ x ∈ xs, Al n x) → xs.length ≤ 1000000 → Al (n + 1) (.lst xs)
def Alike (cal : Cal) (n : Nat) : Prop := ∀ (d : D), Al n d → ∀ st, cal "_law_alike" [.val d, .val d] st = .ok (.val (.bl true)) [] st
theorem bls_true {n : Nat} : blsOf (F n fun _ => .bl true) = some (List.replicate n true) := by
  induction n with
  | zero => rfl
  | succ n ih =>
    have : F (n + 1) (fun _ => D.bl true) = .bl true :: F n (fun _ => .bl true) := by rw [← F_rep, ← F_rep, List.replicate_succ]
    rw [this, blsOf, ih]; rfl
theorem F_mem {n : Nat} {f : Nat → D} {k : Nat} (h : k < n) : f k ∈ F n f := List.mem_map.mpr ⟨k, List.mem_range.mpr h, rfl⟩
theorem all_true {n : Nat} : (List.replicate n true).all id = true := by simp
theorem alike_run {cal : Cal} {n : Nat} (hA : ∀ m, m < n → Alike cal m) (d : D) (hd : Al n d) (st : List O) : runFd cal f_Lalike [.val d, .val d] st = .ok (.val (.bl true)) [] st := by
  refine vCO_eq (v_wCO_run ⟨rfl, rfl, by decide⟩ ?_)
  show V (denBl cal [] c_Lalike) _ ⟨[.val d, .val d, .no, .no], st⟩
  unfold c_Lalike
  cases hd with
  | non =>
    have e : cmpCt .eq (.d .non) (.d .non) = some true := by rw [cmp_eq eqOk_non eqOk_non rfl rfl]; rfl
    simp (disch := first | omega | (simp only [List.length_map, F_len, List.length_append, List.length_cons, List.length_nil] <;> omega)) only [↓vA, uA, Option.bind_some, Option.map_some, Option.bind_none, Option.map_none, List.length_cons, List.length_nil, List.length_map, List.length_append, List.set_cons_zero, List.set_cons_succ, List.set_nil, List.map_cons, List.map_nil, List.cons_append, List.nil_append, List.mem_cons, List.not_mem_nil, Nat.reduceLT, Nat.reduceLeDiff, Nat.reduceAdd, Nat.reduceEqDiff, Nat.zero_add, Nat.lt_add_one, not_false_eq_true, or_false, false_or, or_self, and_true, true_and, and_self, List.getD_cons_zero, List.getD_cons_succ, Nat.succ_ne_self, reduceCtorEq, ne_eq, List.replicate_zero, List.append_nil, Int.reduceToNat, Nat.zero_lt_succ, Nat.reduceSub, Nat.one_ne_zero, Nat.zero_ne_one, f_Lalike, is_istuple_lst, is_islist_lst, is_isbool_lst, is_islt_lst, is_istuple_tup, is_islist_tup, is_isbool_tup, is_islt_tup, is_istuple_int, is_islist_int, is_isbool_int, is_islt_int, is_istuple_bl, is_islist_bl, is_isbool_bl, is_islt_bl, is_istuple_str, is_islist_str, is_isbool_str, is_islt_str, is_istuple_non, is_islist_non, is_isbool_non, is_islt_non, e, beq_self_eq_true, Bool.not_true]
  | int =>
    simp (disch := first | omega | (simp only [List.length_map, F_len, List.length_append, List.length_cons, List.length_nil] <;> omega)) only [↓vA, uA, Option.bind_some, Option.map_some, Option.bind_none, Option.map_none, List.length_cons, List.length_nil, List.length_map, List.length_append, List.set_cons_zero, List.set_cons_succ, List.set_nil, List.map_cons, List.map_nil, List.cons_append, List.nil_append, List.mem_cons, List.not_mem_nil, Nat.reduceLT, Nat.reduceLeDiff, Nat.reduceAdd, Nat.reduceEqDiff, Nat.zero_add, Nat.lt_add_one, not_false_eq_true, or_false, false_or, or_self, and_true, true_and, and_self, List.getD_cons_zero, List.getD_cons_succ, Nat.succ_ne_self, reduceCtorEq, ne_eq, List.replicate_zero, List.append_nil, Int.reduceToNat, Nat.zero_lt_succ, Nat.reduceSub, Nat.one_ne_zero, Nat.zero_ne_one, f_Lalike, is_istuple_lst, is_islist_lst, is_isbool_lst, is_islt_lst, is_istuple_tup, is_islist_tup, is_isbool_tup, is_islt_tup, is_istuple_int, is_islist_int, is_isbool_int, is_islt_int, is_istuple_bl, is_islist_bl, is_isbool_bl, is_islt_bl, is_istuple_str, is_islist_str, is_isbool_str, is_islt_str, is_istuple_non, is_islist_non, is_isbool_non, is_islt_non, beq_self_eq_true, Bool.not_true, decide_true]
  | bl =>
    simp (disch := first | omega | (simp only [List.length_map, F_len, List.length_append, List.length_cons, List.length_nil] <;> omega)) only [↓vA, uA, Option.bind_some, Option.map_some, Option.bind_none, Option.map_none, List.length_cons, List.length_nil, List.length_map, List.length_append, List.set_cons_zero, List.set_cons_succ, List.set_nil, List.map_cons, List.map_nil, List.cons_append, List.nil_append, List.mem_cons, List.not_mem_nil, Nat.reduceLT, Nat.reduceLeDiff, Nat.reduceAdd, Nat.reduceEqDiff, Nat.zero_add, Nat.lt_add_one, not_false_eq_true, or_false, false_or, or_self, and_true, true_and, and_self, List.getD_cons_zero, List.getD_cons_succ, Nat.succ_ne_self, reduceCtorEq, ne_eq, List.replicate_zero, List.append_nil, Int.reduceToNat, Nat.zero_lt_succ, Nat.reduceSub, Nat.one_ne_zero, Nat.zero_ne_one, f_Lalike, is_istuple_lst, is_islist_lst, is_isbool_lst, is_islt_lst, is_istuple_tup, is_islist_tup, is_isbool_tup, is_islt_tup, is_istuple_int, is_islist_int, is_isbool_int, is_islt_int, is_istuple_bl, is_islist_bl, is_isbool_bl, is_islt_bl, is_istuple_str, is_islist_str, is_isbool_str, is_islt_str, is_istuple_non, is_islist_non, is_isbool_non, is_islt_non, beq_self_eq_true, Bool.not_true, decide_true]
  | @tup n xs hx hl =>
    have a := hA n (by omega)
    obtain ⟨m, f, rfl⟩ : ∃ m f, xs = F m f := ⟨_, _, F_of xs .non⟩
    rw [F_len] at hl
    have hx2 : ∀ k, k < m → Al n (f k) := fun k hk => hx _ (F_mem hk)
    simp (disch := first | omega | (simp only [List.length_map, F_len, List.length_append, List.length_cons, List.length_nil] <;> omega)) only [↓vA, uA, Option.bind_some, Option.map_some, Option.bind_none, Option.map_none, List.length_cons, List.length_nil, List.length_map, List.length_append, List.set_cons_zero, List.set_cons_succ, List.set_nil, List.map_cons, List.map_nil, List.cons_append, List.nil_append, List.mem_cons, List.not_mem_nil, Nat.reduceLT, Nat.reduceLeDiff, Nat.reduceAdd, Nat.reduceEqDiff, Nat.zero_add, Nat.lt_add_one, not_false_eq_true, or_false, false_or, or_self, and_true, true_and, and_self, List.getD_cons_zero, List.getD_cons_succ, Nat.succ_ne_self, reduceCtorEq, ne_eq, List.replicate_zero, List.append_nil, Int.reduceToNat, Nat.zero_lt_succ, Nat.reduceSub, Nat.one_ne_zero, Nat.zero_ne_one, f_Lalike, is_istuple_lst, is_islist_lst, is_isbool_lst, is_islt_lst, is_istuple_tup, is_islist_tup, is_isbool_tup, is_islt_tup, is_istuple_int, is_islist_int, is_isbool_int, is_islt_int, is_istuple_bl, is_islist_bl, is_isbool_bl, is_islt_bl, is_istuple_str, is_islist_str, is_isbool_str, is_islt_str, is_istuple_non, is_islist_non, is_isbool_non, is_islt_non, beq_self_eq_true, Bool.not_true, decide_true, Nat.min_self]
    refine lc_map (fun _ => .bl true) ?_ (fun k hk => ?_) ?_
    · omega
    · have ak := a (f k) (hx2 k hk) st
      simp (disch := first | omega | (simp only [List.length_map, F_len, List.length_append, List.length_cons, List.length_nil] <;> omega)) only [↓vA, uA, Option.bind_some, Option.map_some, Option.bind_none, Option.map_none, List.length_cons, List.length_nil, List.length_map, List.length_append, List.set_cons_zero, List.set_cons_succ, List.set_nil, List.map_cons, List.map_nil, List.cons_append, List.nil_append, List.mem_cons, List.not_mem_nil, Nat.reduceLT, Nat.reduceLeDiff, Nat.reduceAdd, Nat.reduceEqDiff, Nat.zero_add, Nat.lt_add_one, not_false_eq_true, or_false, false_or, or_self, and_true, true_and, and_self, List.getD_cons_zero, List.getD_cons_succ, Nat.succ_ne_self, reduceCtorEq, ne_eq, List.replicate_zero, List.append_nil, Int.reduceToNat, Nat.zero_lt_succ, Nat.reduceSub, Nat.one_ne_zero, Nat.zero_ne_one, ak]
    simp (disch := first | omega | (simp only [List.length_map, F_len, List.length_append, List.length_cons, List.length_nil] <;> omega)) only [↓vA, uA, Option.bind_some, Option.map_some, Option.bind_none, Option.map_none, List.length_cons, List.length_nil, List.length_map, List.length_append, List.set_cons_zero, List.set_cons_succ, List.set_nil, List.map_cons, List.map_nil, List.cons_append, List.nil_append, List.mem_cons, List.not_mem_nil, Nat.reduceLT, Nat.reduceLeDiff, Nat.reduceAdd, Nat.reduceEqDiff, Nat.zero_add, Nat.lt_add_one, not_false_eq_true, or_false, false_or, or_self, and_true, true_and, and_self, List.getD_cons_zero, List.getD_cons_succ, Nat.succ_ne_self, reduceCtorEq, ne_eq, List.replicate_zero, List.append_nil, Int.reduceToNat, Nat.zero_lt_succ, Nat.reduceSub, Nat.one_ne_zero, Nat.zero_ne_one, b_all, bls_true, all_true]
  | @lst n xs hx hl =>
    have a := hA n (by omega)
    obtain ⟨m, f, rfl⟩ : ∃ m f, xs = F m f := ⟨_, _, F_of xs .non⟩
    rw [F_len] at hl
    have hx2 : ∀ k, k < m → Al n (f k) := fun k hk => hx _ (F_mem hk)
    simp (disch := first | omega | (simp only [List.length_map, F_len, List.length_append, List.length_cons, List.length_nil] <;> omega)) only [↓vA, uA, Option.bind_some, Option.map_some, Option.bind_none, Option.map_none, List.length_cons, List.length_nil, List.length_map, List.length_append, List.set_cons_zero, List.set_cons_succ, List.set_nil, List.map_cons, List.map_nil, List.cons_append, List.nil_append, List.mem_cons, List.not_mem_nil, Nat.reduceLT, Nat.reduceLeDiff, Nat.reduceAdd, Nat.reduceEqDiff, Nat.zero_add, Nat.lt_add_one, not_false_eq_true, or_false, false_or, or_self, and_true, true_and, and_self, List.getD_cons_zero, List.getD_cons_succ, Nat.succ_ne_self, reduceCtorEq, ne_eq, List.replicate_zero, List.append_nil, Int.reduceToNat, Nat.zero_lt_succ, Nat.reduceSub, Nat.one_ne_zero, Nat.zero_ne_one, f_Lalike, is_istuple_lst, is_islist_lst, is_isbool_lst, is_islt_lst, is_istuple_tup, is_islist_tup, is_isbool_tup, is_islt_tup, is_istuple_int, is_islist_int, is_isbool_int, is_islt_int, is_istuple_bl, is_islist_bl, is_isbool_bl, is_islt_bl, is_istuple_str, is_islist_str, is_isbool_str, is_islt_str, is_istuple_non, is_islist_non, is_isbool_non, is_islt_non, beq_self_eq_true, Bool.not_true, decide_true, Nat.min_self]
    refine lc_map (fun _ => .bl true) ?_ (fun k hk => ?_) ?_
    · omega
    · have ak := a (f k) (hx2 k hk) st
      simp (disch := first | omega | (simp only [List.length_map, F_len, List.length_append, List.length_cons, List.length_nil] <;> omega)) only [↓vA, uA, Option.bind_some, Option.map_some, Option.bind_none, Option.map_none, List.length_cons, List.length_nil, List.length_map, List.length_append, List.set_cons_zero, List.set_cons_succ, List.set_nil, List.map_cons, List.map_nil, List.cons_append, List.nil_append, List.mem_cons, List.not_mem_nil, Nat.reduceLT, Nat.reduceLeDiff, Nat.reduceAdd, Nat.reduceEqDiff, Nat.zero_add, Nat.lt_add_one, not_false_eq_true, or_false, false_or, or_self, and_true, true_and, and_self, List.getD_cons_zero, List.getD_cons_succ, Nat.succ_ne_self, reduceCtorEq, ne_eq, List.replicate_zero, List.append_nil, Int.reduceToNat, Nat.zero_lt_succ, Nat.reduceSub, Nat.one_ne_zero, Nat.zero_ne_one, ak]
    simp (disch := first | omega | (simp only [List.length_map, F_len, List.length_append, List.length_cons, List.length_nil] <;> omega)) only [↓vA, uA, Option.bind_some, Option.map_some, Option.bind_none, Option.map_none, List.length_cons, List.length_nil, List.length_map, List.length_append, List.set_cons_zero, List.set_cons_succ, List.set_nil, List.map_cons, List.map_nil, List.cons_append, List.nil_append, List.mem_cons, List.not_mem_nil, Nat.reduceLT, Nat.reduceLeDiff, Nat.reduceAdd, Nat.reduceEqDiff, Nat.zero_add, Nat.lt_add_one, not_false_eq_true, or_false, false_or, or_self, and_true, true_and, and_self, List.getD_cons_zero, List.getD_cons_succ, Nat.succ_ne_self, reduceCtorEq, ne_eq, List.replicate_zero, List.append_nil, Int.reduceToNat, Nat.zero_lt_succ, Nat.reduceSub, Nat.one_ne_zero, Nat.zero_ne_one, b_all, bls_true, all_true]
end NH.DR

set_option Elab.async false
set_option linter.all false
set_option maxRecDepth 100000
set_option maxHeartbeats 1000000
set_option autoImplicit false
namespace NH.DR
open PySem L2
theorem calN_run {tab : Tab} {x : Str} {fd : Fd} (h : tab.lookup x = some fd) (n : Nat) (as : List Ar) (st : List O) : calN tab (n + 1) x as st = runFd (calN tab n) fd as st := by
  simp only [calN, h]
/-- the defs that draw, in a law's table -/
structure DrawTab (tab : Tab) : Prop where
  box : tab.lookup ("_law_box" : Str) = some f_Lbox
  take : tab.lookup ("_law_take" : Str) = some f_Ltake
  shuf : tab.lookup ("_law_shuffled" : Str) = some f_Lshuffled
  ties : tab.lookup ("_law_ties" : Str) = some f_Lties
  marks : tab.lookup ("_law_marks" : Str) = some f_Lmarks
  plain : tab.lookup ("_law_plain_web" : Str) = some f_Lplain_web
  ren : tab.lookup ("_law_renamed" : Str) = some f_Lrenamed
  turn : tab.lookup ("_law_turnings" : Str) = some f_Lturnings
  cover : tab.lookup ("_law_cover" : Str) = some f_Lcover
section
variable {tab : Tab} {n : Nat}
theorem take_at (h : tab.lookup ("_law_take" : Str) = some f_Ltake) (hn : 1 ≤ n) : Take (calN tab n) := by
  obtain ⟨n, rfl⟩ : ∃ k, n = k + 1 := ⟨n - 1, by omega⟩
  intro o w st h1 h2 h3
  rw [calN_run h]; exact take_run _ o w st h1 h2 h3
theorem box_at (h : tab.lookup ("_law_box" : Str) = some f_Lbox) (hn : 1 ≤ n) : Box (calN tab n) := by
  obtain ⟨n, rfl⟩ : ∃ k, n = k + 1 := ⟨n - 1, by omega⟩
  intro ns k st h1 h2
  rw [calN_run h]; exact box_run _ ns k st h1 h2
theorem shuf_at (h : tab.lookup ("_law_take" : Str) = some f_Ltake) (h' : tab.lookup ("_law_shuffled" : Str) = some f_Lshuffled) (hn : 2 ≤ n) : Shuf (calN tab n) := by
  obtain ⟨n, rfl⟩ : ∃ k, n = k + 1 := ⟨n - 1, by omega⟩
  intro o m st h1 h2
  rw [calN_run h']; exact shuf_run (take_at h (by omega)) o m st h1 h2
theorem ren_at {x : Str} (h : tab.lookup x = some f_Lrenamed) (hn : 1 ≤ n) : Renamed (calN tab n) x := by
  obtain ⟨n, rfl⟩ : ∃ k, n = k + 1 := ⟨n - 1, by omega⟩
  intro W f d st h1 h2 h3 h4
  rw [calN_run h]; exact renamed_run _ W f d st h1 h2 h3 h4
variable (t : DrawTab tab)
include t
theorem DrawTab.Take (hn : 1 ≤ n) : Take (calN tab n) := take_at t.take hn
theorem DrawTab.Box (hn : 1 ≤ n) : Box (calN tab n) := box_at t.box hn
theorem DrawTab.Shuf (hn : 2 ≤ n) : Shuf (calN tab n) := shuf_at t.take t.shuf hn
theorem DrawTab.Ties (hn : 2 ≤ n) : Ties (calN tab n) := by
  obtain ⟨n, rfl⟩ : ∃ k, n = k + 1 := ⟨n - 1, by omega⟩
  intro o m r st h1 h2 h3 h4 h5
  rw [calN_run t.ties]; exact ties_run (t.Take (by omega)) o m r st h1 h2 h3 h4 h5
theorem DrawTab.Marks (hn : 2 ≤ n) : Marks (calN tab n) := by
  obtain ⟨n, rfl⟩ : ∃ k, n = k + 1 := ⟨n - 1, by omega⟩
  intro o m st h1 h2
  rw [calN_run t.marks]; exact marks_run (t.Take (by omega)) o m st h1 h2
theorem DrawTab.Plain (hn : 3 ≤ n) : PlainWeb (calN tab n) := by
  obtain ⟨n, rfl⟩ : ∃ k, n = k + 1 := ⟨n - 1, by omega⟩
  intro o m r st h1 h2 h3 h4 h5
  rw [calN_run t.plain]; exact plain_run (t.Take (by omega)) (t.Shuf (by omega)) (t.Ties (by omega)) (t.Marks (by omega)) o m r st h1 h2 h3 h4 h5
theorem DrawTab.Turnings (hn : 3 ≤ n) : Turnings (calN tab n) := by
  obtain ⟨n, rfl⟩ : ∃ k, n = k + 1 := ⟨n - 1, by omega⟩
  intro o W sh st h1 h2 h3 h4 h5
  rw [calN_run t.turn]; exact turn_run (t.Take (by omega)) (t.Shuf (by omega)) o W sh st h1 h2 h3 h4 h5
theorem DrawTab.Cover (hn : 4 ≤ n) : Cover (calN tab n) := by
  obtain ⟨n, rfl⟩ : ∃ k, n = k + 1 := ⟨n - 1, by omega⟩
  intro o W sh st h1 h2 h3 h4 h5
  rw [calN_run t.cover]; exact cover_run (t.Shuf (by omega)) (t.Turnings (by omega)) (ren_at t.ren (by omega)) o W sh st h1 h2 h3 h4 h5
theorem DrawTab.AWeb (h : tab.lookup ("_law_web" : Str) = some f_Lweb) (hn : 5 ≤ n) : AWeb (calN tab n) := by
  obtain ⟨n, rfl⟩ : ∃ k, n = k + 1 := ⟨n - 1, by omega⟩
  intro o m r st h1 h2 h3 h4 h5
  rw [calN_run h]; exact web_run (t.Take (by omega)) (t.Plain (by omega)) (t.Cover (by omega)) o m r st h1 h2 h3 h4 h5
omit t
theorem alike_at (h : tab.lookup ("_law_alike" : Str) = some f_Lalike) : ∀ (m n : Nat), m < n → Alike (calN tab n) m := by
  intro m
  induction m using Nat.strongRecOn with
  | ind m ih =>
    intro n hn d hd st
    obtain ⟨n, rfl⟩ : ∃ k, n = k + 1 := ⟨n - 1, by omega⟩
    rw [calN_run h]
    exact alike_run (n := m) (fun j hj => ih j hj n (by omega)) d hd st
end
end NH.DR

set_option Elab.async false
set_option linter.all false
set_option maxRecDepth 100000
set_option maxHeartbeats 1000000
set_option autoImplicit false
namespace NH.PG
open PySem L2
def c_renamed : C := 
  (.cons (.asg (.tw 2) (.dnew false))
  (.cons (.fr (.tt (.cons (.tn 3) (.cons (.tt (.cons (.tn 4) (.cons (.tn 5) .nil))) .nil))) (.ienum (.var 0)) (.cons (.asg (.ti (.var 2) (.idx (.var 1) (.var 3))) (.tup (.cons (.var 4) (.cons (.blt .tuple (.cons (.lc [6, 7] (.tt (.cons (.tn 6) (.cons (.tn 7) .nil))) (.iseq (.var 5)) .no (.tup (.cons (.idx (.var 1) (.var 6)) (.cons (.var 7) .nil)))) .nil)) .nil)))) .nil))
  (.cons (.ret (.blt .tuple (.cons (.lc [3] (.tn 3) (.irng (.cons (.blt .len (.cons (.var 0) .nil)) .nil)) .no (.idx (.var 2) (.var 3))) .nil))) .nil)))
def f_renamed : Fd := ⟨2, [], 8, c_renamed⟩
def c_marked : C := 
  (.cons (.asg (.tw 3) (.lst .nil))
  (.cons (.fr (.tt (.cons (.tn 4) (.cons (.tt (.cons (.tn 5) (.cons (.tn 6) .nil))) .nil))) (.ienum (.var 0)) (.cons (.ite (.cmp .isin (.var 4) (.var 1)) (.cons (.asg (.tn 5) (.var 2)) .nil) .nil) (.cons (.ex (.mth .append (.var 3) (.cons (.tup (.cons (.var 5) (.cons (.var 6) .nil))) .nil))) .nil)))
  (.cons (.ret (.blt .tuple (.cons (.var 3) .nil))) .nil)))
def f_marked : Fd := ⟨3, [], 7, c_marked⟩
def c_turned_peg : C := 
  (.cons (.ite (.cmp .eq (.var 0) (.tup (.cons (.var 1) (.cons (.var 2) .nil)))) (.cons (.ret (.tup (.cons (.var 1) (.cons (.var 3) .nil)))) .nil) .nil)
  (.cons (.ite (.cmp .eq (.var 0) (.tup (.cons (.var 1) (.cons (.var 3) .nil)))) (.cons (.ret (.tup (.cons (.var 1) (.cons (.var 2) .nil)))) .nil) .nil)
  (.cons (.ret (.var 0)) .nil)))
def f_turned_peg : Fd := ⟨4, [], 4, c_turned_peg⟩
def c_exchanged : C := 
  (.cons (.asg (.tw 4) (.lst .nil))
  (.cons (.fr (.tt (.cons (.tn 5) (.cons (.tt (.cons (.tn 8) (.cons (.tn 9) .nil))) .nil))) (.ienum (.var 0)) (.cons (.asg (.tw 6) (.lst .nil)) (.cons (.fr (.tn 7) (.irng (.cons (.blt .len (.cons (.var 9) .nil)) .nil)) (.cons (.asg (.tt (.cons (.tn 10) (.cons (.tn 11) .nil))) (.call "turned_peg" (.cons (.tup (.cons (.var 5) (.cons (.var 7) .nil))) (.cons (.var 1) (.cons (.var 2) (.cons (.var 3) .nil)))))) (.cons (.ex (.mth .append (.var 6) (.cons (.call "turned_peg" (.cons (.idx (.idx (.idx (.var 0) (.var 10)) (.int 1)) (.var 11)) (.cons (.var 1) (.cons (.var 2) (.cons (.var 3) .nil))))) .nil))) .nil))) (.cons (.ex (.mth .append (.var 4) (.cons (.tup (.cons (.var 8) (.cons (.blt .tuple (.cons (.var 6) .nil)) .nil))) .nil))) .nil))))
  (.cons (.ret (.blt .tuple (.cons (.var 4) .nil))) .nil)))
def f_exchanged : Fd := ⟨4, [], 12, c_exchanged⟩
def c_Lmarked : C := 
  (.cons (.ret (.blt .tuple (.cons (.lc [3, 4, 5] (.tt (.cons (.tn 3) (.cons (.tt (.cons (.tn 4) (.cons (.tn 5) .nil))) .nil))) (.ienum (.var 0)) .no (.tup (.cons (.idx (.lst (.cons (.var 4) (.cons (.var 2) .nil))) (.blt .int (.cons (.cmp .isin (.var 3) (.var 1)) .nil))) (.cons (.var 5) .nil)))) .nil))) .nil)
def f_Lmarked : Fd := ⟨3, [], 6, c_Lmarked⟩
def c_Lexchanged : C := 
  (.cons (.asg (.tw 4) (.disp false (.cons (.var 2) (.cons (.var 3) (.cons (.var 3) (.cons (.var 2) .nil)))) .nil))
  (.cons (.asg (.tw 5) (.lst .nil))
  (.cons (.fr (.tt (.cons (.tn 6) (.cons (.tt (.cons (.tn 8) (.cons (.tn 9) .nil))) .nil))) (.ienum (.var 0)) (.cons (.asg (.tw 7) (.lst .nil)) (.cons (.fr (.tt (.cons (.tn 10) (.cons (.tn 11) .nil))) (.iseq (.var 9)) (.cons (.ite (.cmp .eq (.var 10) (.var 1)) (.cons (.asg (.tn 11) (.mth .get (.var 4) (.cons (.var 11) (.cons (.var 11) .nil)))) .nil) .nil) (.cons (.ex (.mth .append (.var 7) (.cons (.tup (.cons (.var 10) (.cons (.var 11) .nil))) .nil))) .nil))) (.cons (.ite (.cmp .eq (.var 6) (.var 1)) (.cons (.asg (.tt (.cons (.ti (.var 7) (.var 2)) (.cons (.ti (.var 7) (.var 3)) .nil))) (.tup (.cons (.idx (.var 7) (.var 3)) (.cons (.idx (.var 7) (.var 2)) .nil)))) .nil) .nil) (.cons (.ex (.mth .append (.var 5) (.cons (.tup (.cons (.var 8) (.cons (.blt .tuple (.cons (.var 7) .nil)) .nil))) .nil))) .nil)))))
  (.cons (.ret (.blt .tuple (.cons (.var 5) .nil))) .nil))))
def f_Lexchanged : Fd := ⟨4, [], 12, c_Lexchanged⟩
end NH.PG

set_option Elab.async false
set_option linter.all false
set_option maxRecDepth 100000
set_option maxHeartbeats 1000000
set_option autoImplicit false
namespace NH.PG
open PySem L2 NH.DR
/-! ### webs changed -/
theorem renamed_run (cal : Cal) (W : Web) (f : Nat → Nat) (d : D) (st : List O) (ok : W.Ok) (hf : Prm W.n f) (hn : W.n ≤ 10000) (hd : d = .lst (rowL W.n f) ∨ d = .tup (rowL W.n f)) :
    runFd cal f_renamed [.val (webD W), .val d] st = .ok (.val (webD (ren W f))) [] st := by
  refine vCO_eq (v_wCO_run ⟨rfl, rfl, by decide⟩ ?_)
  show V (denBl cal [] c_renamed) _ ⟨[.val (webD W), .val d, .no, .no, .no, .no, .no, .no], st⟩
  unfold c_renamed
  simp (disch := first | omega | (simp only [List.length_map, F_len, List.length_append, List.length_cons, List.length_nil] <;> omega)) only [↓vA, uA, Option.bind_some, Option.map_some, Option.bind_none, Option.map_none, List.length_cons, List.length_nil, List.length_map, List.length_append, List.set_cons_zero, List.set_cons_succ, List.set_nil, List.map_cons, List.map_nil, List.cons_append, List.nil_append, List.mem_cons, List.not_mem_nil, Nat.reduceLT, Nat.reduceLeDiff, Nat.reduceAdd, Nat.reduceEqDiff, Nat.zero_add, Nat.lt_add_one, not_false_eq_true, or_false, false_or, or_self, and_true, true_and, and_self, List.getD_cons_zero, List.getD_cons_succ, Nat.succ_ne_self, reduceCtorEq, ne_eq, List.replicate_zero, List.append_nil, Int.reduceToNat, Nat.zero_lt_succ, Nat.reduceSub, Nat.one_ne_zero, Nat.zero_ne_one, f_renamed, ct_web, len_web, items_web]
  refine for_ix (fun k s => ∃ (kvs : List (Key × D)) (x3 x4 x5 : Sl), kvs.length ≤ k ∧ (∀ j, j < k → lookD kvs (.inl (f j : Nat)) = some (handD (ren W f) (f j))) ∧ s = ⟨[.val (webD W), .val d, .own (.dk kvs), x3, x4, x5, .no, .no], st⟩) ?_ ?_ ?_
  · exact ⟨[], .no, .no, .no, by simp, by simp, rfl⟩
  · rintro k hk s ⟨kvs, x3, x4, x5, hl, hg, rfl⟩
    have dg := ok.dg k hk
    simp (disch := first | omega | (simp only [List.length_map, F_len, List.length_append, List.length_cons, List.length_nil] <;> omega)) only [↓vA, uA, Option.bind_some, Option.map_some, Option.bind_none, Option.map_none, List.length_cons, List.length_nil, List.length_map, List.length_append, List.set_cons_zero, List.set_cons_succ, List.set_nil, List.map_cons, List.map_nil, List.cons_append, List.nil_append, List.mem_cons, List.not_mem_nil, Nat.reduceLT, Nat.reduceLeDiff, Nat.reduceAdd, Nat.reduceEqDiff, Nat.zero_add, Nat.lt_add_one, not_false_eq_true, or_false, false_or, or_self, and_true, true_and, and_self, List.getD_cons_zero, List.getD_cons_succ, Nat.succ_ne_self, reduceCtorEq, ne_eq, List.replicate_zero, List.append_nil, Int.reduceToNat, Nat.zero_lt_succ, Nat.reduceSub, Nat.one_ne_zero, Nat.zero_ne_one, items_hand, items_pegs]
    refine lc_map (fun p => pD (f (W.to k p).1, (W.to k p).2)) ?_ (fun p hp => ?_) ?_
    · omega
    · obtain ⟨t1, t2, t3⟩ := ok.tie k hk p hp
      rcases hd with rfl | rfl <;> simp (disch := first | omega | (simp only [List.length_map, F_len, List.length_append, List.length_cons, List.length_nil] <;> omega)) only [↓vA, uA, Option.bind_some, Option.map_some, Option.bind_none, Option.map_none, List.length_cons, List.length_nil, List.length_map, List.length_append, List.set_cons_zero, List.set_cons_succ, List.set_nil, List.map_cons, List.map_nil, List.cons_append, List.nil_append, List.mem_cons, List.not_mem_nil, Nat.reduceLT, Nat.reduceLeDiff, Nat.reduceAdd, Nat.reduceEqDiff, Nat.zero_add, Nat.lt_add_one, not_false_eq_true, or_false, false_or, or_self, and_true, true_and, and_self, List.getD_cons_zero, List.getD_cons_succ, Nat.succ_ne_self, reduceCtorEq, ne_eq, List.replicate_zero, List.append_nil, Int.reduceToNat, Nat.zero_lt_succ, Nat.reduceSub, Nat.one_ne_zero, Nat.zero_ne_one, items_p, rowL, pD_mk]
    have fin : ∃ (kvs' : List (Key × D)) (x3 x4 x5 : Sl), kvs'.length ≤ k + 1 ∧ (∀ j, j < k + 1 → lookD kvs' (.inl (f j : Nat)) = some (handD (ren W f) (f j))) ∧ (⟨[.val (webD W), .val d, .own (.dk (putD kvs (.inl (f k : Nat)) (.tup [.int (W.mark k : Nat), .tup (F (W.deg k) fun p => pD (f (W.to k p).1, (W.to k p).2))]))), .val (.int (k : Nat)), .val (.int (W.mark k : Nat)), .val (pegsD W k), .no, .no], st⟩ : Sta) = ⟨[.val (webD W), .val d, .own (.dk kvs'), x3, x4, x5, .no, .no], st⟩ := by
      refine ⟨_, _, _, _, ?_, ?_, rfl⟩
      · have := @put_len _ _ kvs (.inl (f k : Nat)) (.tup [.int (W.mark k : Nat), .tup (F (W.deg k) fun p => pD (f (W.to k p).1, (W.to k p).2))])
        omega
      · intro j hj
        rw [look_put]
        by_cases e : j = k
        · subst e
          rw [if_pos rfl]
          unfold handD pegsD
          simp only [ren, hf.inv_f hk]
        · rw [if_neg ?_]
          · exact hg j (by omega)
          · intro h
            injection h with h
            exact e (hf.inj _ (by omega) _ hk (by omega))
    rcases hd with rfl | rfl
    · simp (disch := first | omega | (simp only [List.length_map, F_len, List.length_append, List.length_cons, List.length_nil] <;> omega)) only [↓vA, uA, Option.bind_some, Option.map_some, Option.bind_none, Option.map_none, List.length_cons, List.length_nil, List.length_map, List.length_append, List.set_cons_zero, List.set_cons_succ, List.set_nil, List.map_cons, List.map_nil, List.cons_append, List.nil_append, List.mem_cons, List.not_mem_nil, Nat.reduceLT, Nat.reduceLeDiff, Nat.reduceAdd, Nat.reduceEqDiff, Nat.zero_add, Nat.lt_add_one, not_false_eq_true, or_false, false_or, or_self, and_true, true_and, and_self, List.getD_cons_zero, List.getD_cons_succ, Nat.succ_ne_self, reduceCtorEq, ne_eq, List.replicate_zero, List.append_nil, Int.reduceToNat, Nat.zero_lt_succ, Nat.reduceSub, Nat.one_ne_zero, Nat.zero_ne_one, rowL]
      exact fin
    · simp (disch := first | omega | (simp only [List.length_map, F_len, List.length_append, List.length_cons, List.length_nil] <;> omega)) only [↓vA, uA, Option.bind_some, Option.map_some, Option.bind_none, Option.map_none, List.length_cons, List.length_nil, List.length_map, List.length_append, List.set_cons_zero, List.set_cons_succ, List.set_nil, List.map_cons, List.map_nil, List.cons_append, List.nil_append, List.mem_cons, List.not_mem_nil, Nat.reduceLT, Nat.reduceLeDiff, Nat.reduceAdd, Nat.reduceEqDiff, Nat.zero_add, Nat.lt_add_one, not_false_eq_true, or_false, false_or, or_self, and_true, true_and, and_self, List.getD_cons_zero, List.getD_cons_succ, Nat.succ_ne_self, reduceCtorEq, ne_eq, List.replicate_zero, List.append_nil, Int.reduceToNat, Nat.zero_lt_succ, Nat.reduceSub, Nat.one_ne_zero, Nat.zero_ne_one, rowL]
      exact fin
  · rintro s ⟨kvs, x3, x4, x5, hl, hg, rfl⟩
    simp (disch := first | omega | (simp only [List.length_map, F_len, List.length_append, List.length_cons, List.length_nil] <;> omega)) only [↓vA, uA, Option.bind_some, Option.map_some, Option.bind_none, Option.map_none, List.length_cons, List.length_nil, List.length_map, List.length_append, List.set_cons_zero, List.set_cons_succ, List.set_nil, List.map_cons, List.map_nil, List.cons_append, List.nil_append, List.mem_cons, List.not_mem_nil, Nat.reduceLT, Nat.reduceLeDiff, Nat.reduceAdd, Nat.reduceEqDiff, Nat.zero_add, Nat.lt_add_one, not_false_eq_true, or_false, false_or, or_self, and_true, true_and, and_self, List.getD_cons_zero, List.getD_cons_succ, Nat.succ_ne_self, reduceCtorEq, ne_eq, List.replicate_zero, List.append_nil, Int.reduceToNat, Nat.zero_lt_succ, Nat.reduceSub, Nat.one_ne_zero, Nat.zero_ne_one, ct_web, len_web]
    refine lc_map (handD (ren W f)) ?_ (fun j hj => ?_) ?_
    · omega
    · have := hg _ (hf.inv_lt hj)
      rw [hf.f_inv hj] at this
      simp (disch := first | omega | (simp only [List.length_map, F_len, List.length_append, List.length_cons, List.length_nil] <;> omega)) only [↓vA, uA, Option.bind_some, Option.map_some, Option.bind_none, Option.map_none, List.length_cons, List.length_nil, List.length_map, List.length_append, List.set_cons_zero, List.set_cons_succ, List.set_nil, List.map_cons, List.map_nil, List.cons_append, List.nil_append, List.mem_cons, List.not_mem_nil, Nat.reduceLT, Nat.reduceLeDiff, Nat.reduceAdd, Nat.reduceEqDiff, Nat.zero_add, Nat.lt_add_one, not_false_eq_true, or_false, false_or, or_self, and_true, true_and, and_self, List.getD_cons_zero, List.getD_cons_succ, Nat.succ_ne_self, reduceCtorEq, ne_eq, List.replicate_zero, List.append_nil, Int.reduceToNat, Nat.zero_lt_succ, Nat.reduceSub, Nat.one_ne_zero, Nat.zero_ne_one, this]
    simp (disch := first | omega | (simp only [List.length_map, F_len, List.length_append, List.length_cons, List.length_nil] <;> omega)) only [↓vA, uA, Option.bind_some, Option.map_some, Option.bind_none, Option.map_none, List.length_cons, List.length_nil, List.length_map, List.length_append, List.set_cons_zero, List.set_cons_succ, List.set_nil, List.map_cons, List.map_nil, List.cons_append, List.nil_append, List.mem_cons, List.not_mem_nil, Nat.reduceLT, Nat.reduceLeDiff, Nat.reduceAdd, Nat.reduceEqDiff, Nat.zero_add, Nat.lt_add_one, not_false_eq_true, or_false, false_or, or_self, and_true, true_and, and_self, List.getD_cons_zero, List.getD_cons_succ, Nat.succ_ne_self, reduceCtorEq, ne_eq, List.replicate_zero, List.append_nil, Int.reduceToNat, Nat.zero_lt_succ, Nat.reduceSub, Nat.one_ne_zero, Nat.zero_ne_one]
    rfl
/-- marked -/
def mrk (W : Web) (hs : List Nat) (m : Nat) : Web := { W with mark := fun h => if h ∈ hs then m else W.mark h }
theorem in_nats {h : Nat} {hs : List Nat} : inCt (.d (.int (h : Nat))) (.d (.tup (hs.map nD))) = some (decide (h ∈ hs)) := by
  have h2 : (hs.map nD).all D.flat = true := by
    rw [List.all_eq_true]
    intro x hx
    obtain ⟨k, _, rfl⟩ := List.mem_map.mp hx
    rfl
  have : inCt (.d (.int (h : Nat))) (.d (.tup (hs.map nD))) = if (D.int (h : Nat)).flat && (hs.map nD).all D.flat then some ((hs.map nD).any fun z => z.eqb (.int (h : Nat))) else none := rfl
  rw [this, h2]
  simp only [D.flat, Bool.and_true, if_true, Option.some.injEq, List.any_map, Function.comp_def, nD, eqb_int, cast_eq]
  by_cases h : h ∈ hs
  · rw [decide_eq_true h]; simp; exact h
  · rw [decide_eq_false h]; simp; intro x h3 h4; exact h (h4 ▸ h3)
theorem marked_run (cal : Cal) (W : Web) (hs : List Nat) (m : Nat) (st : List O) (hn : W.n ≤ 10000) :
    runFd cal f_marked [.val (webD W), .val (.tup (hs.map nD)), .val (.int (m : Nat))] st = .ok (.val (webD (mrk W hs m))) [] st := by
  refine vCO_eq (v_wCO_run ⟨rfl, rfl, by decide⟩ ?_)
  show V (denBl cal [] c_marked) _ ⟨[.val (webD W), .val (.tup (hs.map nD)), .val (.int (m : Nat)), .no, .no, .no, .no], st⟩
  unfold c_marked
  simp (disch := first | omega | (simp only [List.length_map, F_len, List.length_append, List.length_cons, List.length_nil] <;> omega)) only [↓vA, uA, Option.bind_some, Option.map_some, Option.bind_none, Option.map_none, List.length_cons, List.length_nil, List.length_map, List.length_append, List.set_cons_zero, List.set_cons_succ, List.set_nil, List.map_cons, List.map_nil, List.cons_append, List.nil_append, List.mem_cons, List.not_mem_nil, Nat.reduceLT, Nat.reduceLeDiff, Nat.reduceAdd, Nat.reduceEqDiff, Nat.zero_add, Nat.lt_add_one, not_false_eq_true, or_false, false_or, or_self, and_true, true_and, and_self, List.getD_cons_zero, List.getD_cons_succ, Nat.succ_ne_self, reduceCtorEq, ne_eq, List.replicate_zero, List.append_nil, Int.reduceToNat, Nat.zero_lt_succ, Nat.reduceSub, Nat.one_ne_zero, Nat.zero_ne_one, f_marked, items_web]
  refine for_ix (fun k s => ∃ (x4 x5 x6 : Sl), s = ⟨[.val (webD W), .val (.tup (hs.map nD)), .val (.int (m : Nat)), .own (.lst (F k (handD (mrk W hs m)))), x4, x5, x6], st⟩) ?_ ?_ ?_
  · exact ⟨_, _, _, rfl⟩
  · rintro k hk s ⟨x4, x5, x6, rfl⟩
    simp (disch := first | omega | (simp only [List.length_map, F_len, List.length_append, List.length_cons, List.length_nil] <;> omega)) only [↓vA, uA, Option.bind_some, Option.map_some, Option.bind_none, Option.map_none, List.length_cons, List.length_nil, List.length_map, List.length_append, List.set_cons_zero, List.set_cons_succ, List.set_nil, List.map_cons, List.map_nil, List.cons_append, List.nil_append, List.mem_cons, List.not_mem_nil, Nat.reduceLT, Nat.reduceLeDiff, Nat.reduceAdd, Nat.reduceEqDiff, Nat.zero_add, Nat.lt_add_one, not_false_eq_true, or_false, false_or, or_self, and_true, true_and, and_self, List.getD_cons_zero, List.getD_cons_succ, Nat.succ_ne_self, reduceCtorEq, ne_eq, List.replicate_zero, List.append_nil, Int.reduceToNat, Nat.zero_lt_succ, Nat.reduceSub, Nat.one_ne_zero, Nat.zero_ne_one, items_hand, cmp_in, in_nats]
    refine v_wBr_dec (fun e => ?_) (fun e => ?_)
    · simp (disch := first | omega | (simp only [List.length_map, F_len, List.length_append, List.length_cons, List.length_nil] <;> omega)) only [↓vA, uA, Option.bind_some, Option.map_some, Option.bind_none, Option.map_none, List.length_cons, List.length_nil, List.length_map, List.length_append, List.set_cons_zero, List.set_cons_succ, List.set_nil, List.map_cons, List.map_nil, List.cons_append, List.nil_append, List.mem_cons, List.not_mem_nil, Nat.reduceLT, Nat.reduceLeDiff, Nat.reduceAdd, Nat.reduceEqDiff, Nat.zero_add, Nat.lt_add_one, not_false_eq_true, or_false, false_or, or_self, and_true, true_and, and_self, List.getD_cons_zero, List.getD_cons_succ, Nat.succ_ne_self, reduceCtorEq, ne_eq, List.replicate_zero, List.append_nil, Int.reduceToNat, Nat.zero_lt_succ, Nat.reduceSub, Nat.one_ne_zero, Nat.zero_ne_one]
      have : F k (handD (mrk W hs m)) ++ [D.tup [.int (m : Nat), pegsD W k]] = F (k + 1) (handD (mrk W hs m)) := by
        rw [F_succ]
        simp only [handD, mrk, e, if_true]; rfl
      rw [this]
      exact ⟨_, _, _, rfl⟩
    · simp (disch := first | omega | (simp only [List.length_map, F_len, List.length_append, List.length_cons, List.length_nil] <;> omega)) only [↓vA, uA, Option.bind_some, Option.map_some, Option.bind_none, Option.map_none, List.length_cons, List.length_nil, List.length_map, List.length_append, List.set_cons_zero, List.set_cons_succ, List.set_nil, List.map_cons, List.map_nil, List.cons_append, List.nil_append, List.mem_cons, List.not_mem_nil, Nat.reduceLT, Nat.reduceLeDiff, Nat.reduceAdd, Nat.reduceEqDiff, Nat.zero_add, Nat.lt_add_one, not_false_eq_true, or_false, false_or, or_self, and_true, true_and, and_self, List.getD_cons_zero, List.getD_cons_succ, Nat.succ_ne_self, reduceCtorEq, ne_eq, List.replicate_zero, List.append_nil, Int.reduceToNat, Nat.zero_lt_succ, Nat.reduceSub, Nat.one_ne_zero, Nat.zero_ne_one]
      have : F k (handD (mrk W hs m)) ++ [D.tup [.int (W.mark k : Nat), pegsD W k]] = F (k + 1) (handD (mrk W hs m)) := by
        rw [F_succ]
        simp only [handD, mrk, e, if_false]; rfl
      rw [this]
      exact ⟨_, _, _, rfl⟩
  · rintro s ⟨x4, x5, x6, rfl⟩
    simp (disch := first | omega | (simp only [List.length_map, F_len, List.length_append, List.length_cons, List.length_nil] <;> omega)) only [↓vA, uA, Option.bind_some, Option.map_some, Option.bind_none, Option.map_none, List.length_cons, List.length_nil, List.length_map, List.length_append, List.set_cons_zero, List.set_cons_succ, List.set_nil, List.map_cons, List.map_nil, List.cons_append, List.nil_append, List.mem_cons, List.not_mem_nil, Nat.reduceLT, Nat.reduceLeDiff, Nat.reduceAdd, Nat.reduceEqDiff, Nat.zero_add, Nat.lt_add_one, not_false_eq_true, or_false, false_or, or_self, and_true, true_and, and_self, List.getD_cons_zero, List.getD_cons_succ, Nat.succ_ne_self, reduceCtorEq, ne_eq, List.replicate_zero, List.append_nil, Int.reduceToNat, Nat.zero_lt_succ, Nat.reduceSub, Nat.one_ne_zero, Nat.zero_ne_one]
    rfl
theorem Lmarked_run (cal : Cal) (W : Web) (hs : List Nat) (m : Nat) (st : List O) (hn : W.n ≤ 10000) :
    runFd cal f_Lmarked [.val (webD W), .val (.tup (hs.map nD)), .val (.int (m : Nat))] st = .ok (.val (webD (mrk W hs m))) [] st := by
  refine vCO_eq (v_wCO_run ⟨rfl, rfl, by decide⟩ ?_)
  show V (denBl cal [] c_Lmarked) _ ⟨[.val (webD W), .val (.tup (hs.map nD)), .val (.int (m : Nat)), .no, .no, .no], st⟩
  unfold c_Lmarked
  simp (disch := first | omega | (simp only [List.length_map, F_len, List.length_append, List.length_cons, List.length_nil] <;> omega)) only [↓vA, uA, Option.bind_some, Option.map_some, Option.bind_none, Option.map_none, List.length_cons, List.length_nil, List.length_map, List.length_append, List.set_cons_zero, List.set_cons_succ, List.set_nil, List.map_cons, List.map_nil, List.cons_append, List.nil_append, List.mem_cons, List.not_mem_nil, Nat.reduceLT, Nat.reduceLeDiff, Nat.reduceAdd, Nat.reduceEqDiff, Nat.zero_add, Nat.lt_add_one, not_false_eq_true, or_false, false_or, or_self, and_true, true_and, and_self, List.getD_cons_zero, List.getD_cons_succ, Nat.succ_ne_self, reduceCtorEq, ne_eq, List.replicate_zero, List.append_nil, Int.reduceToNat, Nat.zero_lt_succ, Nat.reduceSub, Nat.one_ne_zero, Nat.zero_ne_one, f_Lmarked, items_web]
  refine lc_map (handD (mrk W hs m)) ?_ (fun k hk => ?_) ?_
  · omega
  · simp (disch := first | omega | (simp only [List.length_map, F_len, List.length_append, List.length_cons, List.length_nil] <;> omega)) only [↓vA, uA, Option.bind_some, Option.map_some, Option.bind_none, Option.map_none, List.length_cons, List.length_nil, List.length_map, List.length_append, List.set_cons_zero, List.set_cons_succ, List.set_nil, List.map_cons, List.map_nil, List.cons_append, List.nil_append, List.mem_cons, List.not_mem_nil, Nat.reduceLT, Nat.reduceLeDiff, Nat.reduceAdd, Nat.reduceEqDiff, Nat.zero_add, Nat.lt_add_one, not_false_eq_true, or_false, false_or, or_self, and_true, true_and, and_self, List.getD_cons_zero, List.getD_cons_succ, Nat.succ_ne_self, reduceCtorEq, ne_eq, List.replicate_zero, List.append_nil, Int.reduceToNat, Nat.zero_lt_succ, Nat.reduceSub, Nat.one_ne_zero, Nat.zero_ne_one, items_hand, cmp_in, in_nats, atI_if]
    unfold handD mrk
    by_cases e : k ∈ hs <;> simp [e, pegsD]
  simp (disch := first | omega | (simp only [List.length_map, F_len, List.length_append, List.length_cons, List.length_nil] <;> omega)) only [↓vA, uA, Option.bind_some, Option.map_some, Option.bind_none, Option.map_none, List.length_cons, List.length_nil, List.length_map, List.length_append, List.set_cons_zero, List.set_cons_succ, List.set_nil, List.map_cons, List.map_nil, List.cons_append, List.nil_append, List.mem_cons, List.not_mem_nil, Nat.reduceLT, Nat.reduceLeDiff, Nat.reduceAdd, Nat.reduceEqDiff, Nat.zero_add, Nat.lt_add_one, not_false_eq_true, or_false, false_or, or_self, and_true, true_and, and_self, List.getD_cons_zero, List.getD_cons_succ, Nat.succ_ne_self, reduceCtorEq, ne_eq, List.replicate_zero, List.append_nil, Int.reduceToNat, Nat.zero_lt_succ, Nat.reduceSub, Nat.one_ne_zero, Nat.zero_ne_one]
  rfl
/-- exchanged -/
def tp (hand p q : Nat) (e : DR.End) : DR.End := if e = (hand, p) then (hand, q) else if e = (hand, q) then (hand, p) else e
theorem tp_run (cal : Cal) (e : DR.End) (hand p q : Nat) (st : List O) :
    runFd cal f_turned_peg [.val (pD e), .val (.int (hand : Nat)), .val (.int (p : Nat)), .val (.int (q : Nat))] st = .ok (.val (pD (tp hand p q e))) [] st := by
  refine vCO_eq (v_wCO_run ⟨rfl, rfl, by decide⟩ ?_)
  show V (denBl cal [] c_turned_peg) _ ⟨[.val (pD e), .val (.int (hand : Nat)), .val (.int (p : Nat)), .val (.int (q : Nat))], st⟩
  unfold c_turned_peg
  simp (disch := first | omega | (simp only [List.length_map, F_len, List.length_append, List.length_cons, List.length_nil] <;> omega)) only [↓vA, uA, Option.bind_some, Option.map_some, Option.bind_none, Option.map_none, List.length_cons, List.length_nil, List.length_map, List.length_append, List.set_cons_zero, List.set_cons_succ, List.set_nil, List.map_cons, List.map_nil, List.cons_append, List.nil_append, List.mem_cons, List.not_mem_nil, Nat.reduceLT, Nat.reduceLeDiff, Nat.reduceAdd, Nat.reduceEqDiff, Nat.zero_add, Nat.lt_add_one, not_false_eq_true, or_false, false_or, or_self, and_true, true_and, and_self, List.getD_cons_zero, List.getD_cons_succ, Nat.succ_ne_self, reduceCtorEq, ne_eq, List.replicate_zero, List.append_nil, Int.reduceToNat, Nat.zero_lt_succ, Nat.reduceSub, Nat.one_ne_zero, Nat.zero_ne_one, f_turned_peg, pD_mk, ct_p, cmp_eqP]
  unfold tp
  refine v_wBr_dec (fun h => ?_) (fun h => ?_)
  · simp (disch := first | omega | (simp only [List.length_map, F_len, List.length_append, List.length_cons, List.length_nil] <;> omega)) only [↓vA, uA, Option.bind_some, Option.map_some, Option.bind_none, Option.map_none, List.length_cons, List.length_nil, List.length_map, List.length_append, List.set_cons_zero, List.set_cons_succ, List.set_nil, List.map_cons, List.map_nil, List.cons_append, List.nil_append, List.mem_cons, List.not_mem_nil, Nat.reduceLT, Nat.reduceLeDiff, Nat.reduceAdd, Nat.reduceEqDiff, Nat.zero_add, Nat.lt_add_one, not_false_eq_true, or_false, false_or, or_self, and_true, true_and, and_self, List.getD_cons_zero, List.getD_cons_succ, Nat.succ_ne_self, reduceCtorEq, ne_eq, List.replicate_zero, List.append_nil, Int.reduceToNat, Nat.zero_lt_succ, Nat.reduceSub, Nat.one_ne_zero, Nat.zero_ne_one, pD_mk, if_pos h]
  · simp (disch := first | omega | (simp only [List.length_map, F_len, List.length_append, List.length_cons, List.length_nil] <;> omega)) only [↓vA, uA, Option.bind_some, Option.map_some, Option.bind_none, Option.map_none, List.length_cons, List.length_nil, List.length_map, List.length_append, List.set_cons_zero, List.set_cons_succ, List.set_nil, List.map_cons, List.map_nil, List.cons_append, List.nil_append, List.mem_cons, List.not_mem_nil, Nat.reduceLT, Nat.reduceLeDiff, Nat.reduceAdd, Nat.reduceEqDiff, Nat.zero_add, Nat.lt_add_one, not_false_eq_true, or_false, false_or, or_self, and_true, true_and, and_self, List.getD_cons_zero, List.getD_cons_succ, Nat.succ_ne_self, reduceCtorEq, ne_eq, List.replicate_zero, List.append_nil, Int.reduceToNat, Nat.zero_lt_succ, Nat.reduceSub, Nat.one_ne_zero, Nat.zero_ne_one, pD_mk, ct_p, cmp_eqP]
    refine v_wBr_dec (fun h2 => ?_) (fun h2 => ?_)
    · simp (disch := first | omega | (simp only [List.length_map, F_len, List.length_append, List.length_cons, List.length_nil] <;> omega)) only [↓vA, uA, Option.bind_some, Option.map_some, Option.bind_none, Option.map_none, List.length_cons, List.length_nil, List.length_map, List.length_append, List.set_cons_zero, List.set_cons_succ, List.set_nil, List.map_cons, List.map_nil, List.cons_append, List.nil_append, List.mem_cons, List.not_mem_nil, Nat.reduceLT, Nat.reduceLeDiff, Nat.reduceAdd, Nat.reduceEqDiff, Nat.zero_add, Nat.lt_add_one, not_false_eq_true, or_false, false_or, or_self, and_true, true_and, and_self, List.getD_cons_zero, List.getD_cons_succ, Nat.succ_ne_self, reduceCtorEq, ne_eq, List.replicate_zero, List.append_nil, Int.reduceToNat, Nat.zero_lt_succ, Nat.reduceSub, Nat.one_ne_zero, Nat.zero_ne_one, pD_mk, if_neg h, if_pos h2]
    · simp (disch := first | omega | (simp only [List.length_map, F_len, List.length_append, List.length_cons, List.length_nil] <;> omega)) only [↓vA, uA, Option.bind_some, Option.map_some, Option.bind_none, Option.map_none, List.length_cons, List.length_nil, List.length_map, List.length_append, List.set_cons_zero, List.set_cons_succ, List.set_nil, List.map_cons, List.map_nil, List.cons_append, List.nil_append, List.mem_cons, List.not_mem_nil, Nat.reduceLT, Nat.reduceLeDiff, Nat.reduceAdd, Nat.reduceEqDiff, Nat.zero_add, Nat.lt_add_one, not_false_eq_true, or_false, false_or, or_self, and_true, true_and, and_self, List.getD_cons_zero, List.getD_cons_succ, Nat.succ_ne_self, reduceCtorEq, ne_eq, List.replicate_zero, List.append_nil, Int.reduceToNat, Nat.zero_lt_succ, Nat.reduceSub, Nat.one_ne_zero, Nat.zero_ne_one, if_neg h, if_neg h2]
def exch (W : Web) (hand p q : Nat) : Web := { W with to := fun h k => tp hand p q (W.to (tp hand p q (h, k)).1 (tp hand p q (h, k)).2) }
/-- ties that stay within -/
def Web.In (W : Web) : Prop := ∀ h, h < W.n → ∀ p, p < W.deg h → (W.to h p).1 < W.n ∧ (W.to h p).2 < W.deg (W.to h p).1
theorem tp_in {W : Web} {hand p q : Nat} (hp : p < W.deg hand) (hq : q < W.deg hand) (hh : hand < W.n) {e : DR.End} (h1 : e.1 < W.n) (h2 : e.2 < W.deg e.1) : (tp hand p q e).1 < W.n ∧ (tp hand p q e).2 < W.deg (tp hand p q e).1 := by
  unfold tp
  split
  · exact ⟨hh, hq⟩
  · split
    · exact ⟨hh, hp⟩
    · exact ⟨h1, h2⟩
theorem exch_in {W : Web} {hand p q : Nat} (hi : Web.In W) (hh : hand < W.n) (hp : p < W.deg hand) (hq : q < W.deg hand) : Web.In (exch W hand p q) := by
  intro h h1 k h2
  obtain ⟨a, b⟩ := tp_in hp hq hh (e := (h, k)) h1 h2
  obtain ⟨c, d⟩ := hi _ a _ b
  exact tp_in hp hq hh c d
theorem exchanged_run {cal : Cal} (hT : ∀ (e : DR.End) (hand p q : Nat) (st : List O), cal "turned_peg" [.val (pD e), .val (.int (hand : Nat)), .val (.int (p : Nat)), .val (.int (q : Nat))] st = .ok (.val (pD (tp hand p q e))) [] st)
    (W : Web) (hand p q : Nat) (st : List O) (hn : W.n ≤ 10000) (hi : Web.In W) (hd : ∀ h, h < W.n → W.deg h ≤ 10000) (hh : hand < W.n) (hp : p < W.deg hand) (hq : q < W.deg hand) :
    runFd cal f_exchanged [.val (webD W), .val (.int (hand : Nat)), .val (.int (p : Nat)), .val (.int (q : Nat))] st = .ok (.val (webD (exch W hand p q))) [] st := by
  refine vCO_eq (v_wCO_run ⟨rfl, rfl, by decide⟩ ?_)
  show V (denBl cal [] c_exchanged) _ ⟨[.val (webD W), .val (.int (hand : Nat)), .val (.int (p : Nat)), .val (.int (q : Nat)), .no, .no, .no, .no, .no, .no, .no, .no], st⟩
  unfold c_exchanged
  simp (disch := first | omega | (simp only [List.length_map, F_len, List.length_append, List.length_cons, List.length_nil] <;> omega)) only [↓vA, uA, Option.bind_some, Option.map_some, Option.bind_none, Option.map_none, List.length_cons, List.length_nil, List.length_map, List.length_append, List.set_cons_zero, List.set_cons_succ, List.set_nil, List.map_cons, List.map_nil, List.cons_append, List.nil_append, List.mem_cons, List.not_mem_nil, Nat.reduceLT, Nat.reduceLeDiff, Nat.reduceAdd, Nat.reduceEqDiff, Nat.zero_add, Nat.lt_add_one, not_false_eq_true, or_false, false_or, or_self, and_true, true_and, and_self, List.getD_cons_zero, List.getD_cons_succ, Nat.succ_ne_self, reduceCtorEq, ne_eq, List.replicate_zero, List.append_nil, Int.reduceToNat, Nat.zero_lt_succ, Nat.reduceSub, Nat.one_ne_zero, Nat.zero_ne_one, f_exchanged, items_web]
  refine for_ix (fun k s => ∃ (x5 x6 x7 x8 x9 x10 x11 : Sl), s = ⟨[.val (webD W), .val (.int (hand : Nat)), .val (.int (p : Nat)), .val (.int (q : Nat)), .own (.lst (F k (handD (exch W hand p q)))), x5, x6, x7, x8, x9, x10, x11], st⟩) ?_ ?_ ?_
  · exact ⟨_, _, _, _, _, _, _, rfl⟩
  · rintro h hh2 s ⟨x5, x6, x7, x8, x9, x10, x11, rfl⟩
    have dg := hd h hh2
    simp (disch := first | omega | (simp only [List.length_map, F_len, List.length_append, List.length_cons, List.length_nil] <;> omega)) only [↓vA, uA, Option.bind_some, Option.map_some, Option.bind_none, Option.map_none, List.length_cons, List.length_nil, List.length_map, List.length_append, List.set_cons_zero, List.set_cons_succ, List.set_nil, List.map_cons, List.map_nil, List.cons_append, List.nil_append, List.mem_cons, List.not_mem_nil, Nat.reduceLT, Nat.reduceLeDiff, Nat.reduceAdd, Nat.reduceEqDiff, Nat.zero_add, Nat.lt_add_one, not_false_eq_true, or_false, false_or, or_self, and_true, true_and, and_self, List.getD_cons_zero, List.getD_cons_succ, Nat.succ_ne_self, reduceCtorEq, ne_eq, List.replicate_zero, List.append_nil, Int.reduceToNat, Nat.zero_lt_succ, Nat.reduceSub, Nat.one_ne_zero, Nat.zero_ne_one, items_hand, ct_pegs, len_pegs]
    refine for_ix (fun k s => ∃ (x7 x10 x11 : Sl), s = ⟨[.val (webD W), .val (.int (hand : Nat)), .val (.int (p : Nat)), .val (.int (q : Nat)), .own (.lst (F h (handD (exch W hand p q)))), .val (.int (h : Nat)), .own (.lst (F k fun k => pD ((exch W hand p q).to h k))), x7, .val (.int (W.mark h : Nat)), .val (pegsD W h), x10, x11], st⟩) ?_ ?_ ?_
    · exact ⟨_, _, _, rfl⟩
    · rintro k hk s ⟨x7, x10, x11, rfl⟩
      obtain ⟨a, b⟩ := tp_in hp hq hh (e := (h, k)) hh2 hk
      simp (disch := first | omega | (simp only [List.length_map, F_len, List.length_append, List.length_cons, List.length_nil] <;> omega)) only [↓vA, uA, Option.bind_some, Option.map_some, Option.bind_none, Option.map_none, List.length_cons, List.length_nil, List.length_map, List.length_append, List.set_cons_zero, List.set_cons_succ, List.set_nil, List.map_cons, List.map_nil, List.cons_append, List.nil_append, List.mem_cons, List.not_mem_nil, Nat.reduceLT, Nat.reduceLeDiff, Nat.reduceAdd, Nat.reduceEqDiff, Nat.zero_add, Nat.lt_add_one, not_false_eq_true, or_false, false_or, or_self, and_true, true_and, and_self, List.getD_cons_zero, List.getD_cons_succ, Nat.succ_ne_self, reduceCtorEq, ne_eq, List.replicate_zero, List.append_nil, Int.reduceToNat, Nat.zero_lt_succ, Nat.reduceSub, Nat.one_ne_zero, Nat.zero_ne_one, pD_mk, hT, items_p, ct_web, idx_web, ct_hand, idx_hand1, ct_pegs, idx_pegs]
      have : F k (fun k => pD ((exch W hand p q).to h k)) ++ [pD (tp hand p q (W.to (tp hand p q (h, k)).1 (tp hand p q (h, k)).2))] = F (k + 1) (fun k => pD ((exch W hand p q).to h k)) := by rw [F_succ]; rfl
      rw [this]
      exact ⟨_, _, _, rfl⟩
    · rintro s ⟨x7, x10, x11, rfl⟩
      simp (disch := first | omega | (simp only [List.length_map, F_len, List.length_append, List.length_cons, List.length_nil] <;> omega)) only [↓vA, uA, Option.bind_some, Option.map_some, Option.bind_none, Option.map_none, List.length_cons, List.length_nil, List.length_map, List.length_append, List.set_cons_zero, List.set_cons_succ, List.set_nil, List.map_cons, List.map_nil, List.cons_append, List.nil_append, List.mem_cons, List.not_mem_nil, Nat.reduceLT, Nat.reduceLeDiff, Nat.reduceAdd, Nat.reduceEqDiff, Nat.zero_add, Nat.lt_add_one, not_false_eq_true, or_false, false_or, or_self, and_true, true_and, and_self, List.getD_cons_zero, List.getD_cons_succ, Nat.succ_ne_self, reduceCtorEq, ne_eq, List.replicate_zero, List.append_nil, Int.reduceToNat, Nat.zero_lt_succ, Nat.reduceSub, Nat.one_ne_zero, Nat.zero_ne_one]
      have : F h (handD (exch W hand p q)) ++ [D.tup [.int (W.mark h : Nat), .tup (F (W.deg h) fun k => pD ((exch W hand p q).to h k))]] = F (h + 1) (handD (exch W hand p q)) := by rw [F_succ]; rfl
      rw [this]
      exact ⟨_, _, _, _, _, _, _, rfl⟩
  · rintro s ⟨x5, x6, x7, x8, x9, x10, x11, rfl⟩
    simp (disch := first | omega | (simp only [List.length_map, F_len, List.length_append, List.length_cons, List.length_nil] <;> omega)) only [↓vA, uA, Option.bind_some, Option.map_some, Option.bind_none, Option.map_none, List.length_cons, List.length_nil, List.length_map, List.length_append, List.set_cons_zero, List.set_cons_succ, List.set_nil, List.map_cons, List.map_nil, List.cons_append, List.nil_append, List.mem_cons, List.not_mem_nil, Nat.reduceLT, Nat.reduceLeDiff, Nat.reduceAdd, Nat.reduceEqDiff, Nat.zero_add, Nat.lt_add_one, not_false_eq_true, or_false, false_or, or_self, and_true, true_and, and_self, List.getD_cons_zero, List.getD_cons_succ, Nat.succ_ne_self, reduceCtorEq, ne_eq, List.replicate_zero, List.append_nil, Int.reduceToNat, Nat.zero_lt_succ, Nat.reduceSub, Nat.one_ne_zero, Nat.zero_ne_one]
    rfl
theorem swap_get {p q r : Nat} (hpq : p ≠ q) : (lookD (mergeD [] [((.inl (p : Int) : Key), D.int (q : Int)), (.inl (q : Int), .int (p : Int))]) (.inl (r : Int))).getD (.int (r : Int)) = .int ((if r = p then q else if r = q then p else r : Nat) : Int) := by
  have : mergeD [] [((.inl (p : Int) : Key), D.int (q : Int)), (.inl (q : Int), .int (p : Int))] = putD (putD [] (.inl (p : Int)) (.int (q : Int))) (.inl (q : Int)) (.int (p : Int)) := rfl
  rw [this, look_put, look_put, look_nil]
  simp only [Sum.inl.injEq, cast_eq]
  by_cases h1 : r = q
  · subst h1
    rw [if_pos rfl, if_neg (fun h => hpq h.symm), if_pos rfl]; rfl
  · by_cases h2 : r = p
    · subst h2
      rw [if_neg h1, if_pos rfl, if_pos rfl]; rfl
    · rw [if_neg h1, if_neg h2, if_neg h2, if_neg h1]; rfl
theorem disp_two {a b c d : Int} : dispR [.int a, .int b, .int c, .int d] = some (.new (.dk (mergeD [] [((.inl a : Key), D.int b), (.inl c, .int d)]))) := rfl
theorem tp_get {hand p q : Nat} (hpq : p ≠ q) (e : DR.End) (h : e.1 = hand) : tp hand p q e = (e.1, if e.2 = p then q else if e.2 = q then p else e.2) := by
  obtain ⟨a, b⟩ := e
  simp only at h
  subst h
  unfold tp
  simp only [Prod.mk.injEq, true_and]
  split
  · rfl
  · split <;> rfl
theorem tp_other {hand p q : Nat} (e : DR.End) (h : e.1 ≠ hand) : tp hand p q e = e := by
  unfold tp
  rw [if_neg (fun x => h (by rw [x])), if_neg (fun x => h (by rw [x]))]
theorem Lexchanged_run {cal : Cal} (W : Web) (hand p q : Nat) (st : List O) (hn : W.n ≤ 10000) (hd : ∀ h, h < W.n → W.deg h ≤ 10000) (hh : hand < W.n) (hp : p < W.deg hand) (hq : q < W.deg hand) (hpq : p ≠ q) :
    runFd cal f_Lexchanged [.val (webD W), .val (.int (hand : Nat)), .val (.int (p : Nat)), .val (.int (q : Nat))] st = .ok (.val (webD (exch W hand p q))) [] st := by
  refine vCO_eq (v_wCO_run ⟨rfl, rfl, by decide⟩ ?_)
  show V (denBl cal [] c_Lexchanged) _ ⟨[.val (webD W), .val (.int (hand : Nat)), .val (.int (p : Nat)), .val (.int (q : Nat)), .no, .no, .no, .no, .no, .no, .no, .no], st⟩
  unfold c_Lexchanged
  simp (disch := first | omega | (simp only [List.length_map, F_len, List.length_append, List.length_cons, List.length_nil] <;> omega)) only [↓vA, uA, Option.bind_some, Option.map_some, Option.bind_none, Option.map_none, List.length_cons, List.length_nil, List.length_map, List.length_append, List.set_cons_zero, List.set_cons_succ, List.set_nil, List.map_cons, List.map_nil, List.cons_append, List.nil_append, List.mem_cons, List.not_mem_nil, Nat.reduceLT, Nat.reduceLeDiff, Nat.reduceAdd, Nat.reduceEqDiff, Nat.zero_add, Nat.lt_add_one, not_false_eq_true, or_false, false_or, or_self, and_true, true_and, and_self, List.getD_cons_zero, List.getD_cons_succ, Nat.succ_ne_self, reduceCtorEq, ne_eq, List.replicate_zero, List.append_nil, Int.reduceToNat, Nat.zero_lt_succ, Nat.reduceSub, Nat.one_ne_zero, Nat.zero_ne_one, f_Lexchanged, items_web, disp_two]
  generalize hsw : mergeD [] [((.inl (p : Int) : Key), D.int (q : Int)), (.inl (q : Int), .int (p : Int))] = sw
  have hget : ∀ r : Nat, (lookD sw (.inl (r : Int))).getD (.int (r : Int)) = .int ((if r = p then q else if r = q then p else r : Nat) : Int) := fun r => by rw [← hsw]; exact swap_get hpq
  refine for_ix (fun k s => ∃ (x6 x7 x8 x9 x10 x11 : Sl), s = ⟨[.val (webD W), .val (.int (hand : Nat)), .val (.int (p : Nat)), .val (.int (q : Nat)), .own (.dk sw), .own (.lst (F k (handD (exch W hand p q)))), x6, x7, x8, x9, x10, x11], st⟩) ?_ ?_ ?_
  · exact ⟨_, _, _, _, _, _, rfl⟩
  · rintro h hh2 s ⟨x6, x7, x8, x9, x10, x11, rfl⟩
    have dg := hd h hh2
    simp (disch := first | omega | (simp only [List.length_map, F_len, List.length_append, List.length_cons, List.length_nil] <;> omega)) only [↓vA, uA, Option.bind_some, Option.map_some, Option.bind_none, Option.map_none, List.length_cons, List.length_nil, List.length_map, List.length_append, List.set_cons_zero, List.set_cons_succ, List.set_nil, List.map_cons, List.map_nil, List.cons_append, List.nil_append, List.mem_cons, List.not_mem_nil, Nat.reduceLT, Nat.reduceLeDiff, Nat.reduceAdd, Nat.reduceEqDiff, Nat.zero_add, Nat.lt_add_one, not_false_eq_true, or_false, false_or, or_self, and_true, true_and, and_self, List.getD_cons_zero, List.getD_cons_succ, Nat.succ_ne_self, reduceCtorEq, ne_eq, List.replicate_zero, List.append_nil, Int.reduceToNat, Nat.zero_lt_succ, Nat.reduceSub, Nat.one_ne_zero, Nat.zero_ne_one, items_hand, items_pegs]
    refine for_ix (fun k s => ∃ (x10 x11 : Sl), s = ⟨[.val (webD W), .val (.int (hand : Nat)), .val (.int (p : Nat)), .val (.int (q : Nat)), .own (.dk sw), .own (.lst (F h (handD (exch W hand p q)))), .val (.int (h : Nat)), .own (.lst (F k fun k => pD (tp hand p q (W.to h k)))), .val (.int (W.mark h : Nat)), .val (pegsD W h), x10, x11], st⟩) ?_ ?_ ?_
    · exact ⟨_, _, rfl⟩
    · rintro k hk s ⟨x10, x11, rfl⟩
      simp (disch := first | omega | (simp only [List.length_map, F_len, List.length_append, List.length_cons, List.length_nil] <;> omega)) only [↓vA, uA, Option.bind_some, Option.map_some, Option.bind_none, Option.map_none, List.length_cons, List.length_nil, List.length_map, List.length_append, List.set_cons_zero, List.set_cons_succ, List.set_nil, List.map_cons, List.map_nil, List.cons_append, List.nil_append, List.mem_cons, List.not_mem_nil, Nat.reduceLT, Nat.reduceLeDiff, Nat.reduceAdd, Nat.reduceEqDiff, Nat.zero_add, Nat.lt_add_one, not_false_eq_true, or_false, false_or, or_self, and_true, true_and, and_self, List.getD_cons_zero, List.getD_cons_succ, Nat.succ_ne_self, reduceCtorEq, ne_eq, List.replicate_zero, List.append_nil, Int.reduceToNat, Nat.zero_lt_succ, Nat.reduceSub, Nat.one_ne_zero, Nat.zero_ne_one, items_p]
      refine v_wBr_dec (fun e => ?_) (fun e => ?_)
      · simp (disch := first | omega | (simp only [List.length_map, F_len, List.length_append, List.length_cons, List.length_nil] <;> omega)) only [↓vA, uA, Option.bind_some, Option.map_some, Option.bind_none, Option.map_none, List.length_cons, List.length_nil, List.length_map, List.length_append, List.set_cons_zero, List.set_cons_succ, List.set_nil, List.map_cons, List.map_nil, List.cons_append, List.nil_append, List.mem_cons, List.not_mem_nil, Nat.reduceLT, Nat.reduceLeDiff, Nat.reduceAdd, Nat.reduceEqDiff, Nat.zero_add, Nat.lt_add_one, not_false_eq_true, or_false, false_or, or_self, and_true, true_and, and_self, List.getD_cons_zero, List.getD_cons_succ, Nat.succ_ne_self, reduceCtorEq, ne_eq, List.replicate_zero, List.append_nil, Int.reduceToNat, Nat.zero_lt_succ, Nat.reduceSub, Nat.one_ne_zero, Nat.zero_ne_one, hget]
        have : F k (fun k => pD (tp hand p q (W.to h k))) ++ [D.tup [.int ((W.to h k).1 : Nat), .int ((if (W.to h k).2 = p then q else if (W.to h k).2 = q then p else (W.to h k).2 : Nat) : Int)]] = F (k + 1) (fun k => pD (tp hand p q (W.to h k))) := by rw [F_succ, tp_get hpq _ e]; rfl
        rw [this]
        exact ⟨_, _, rfl⟩
      · simp (disch := first | omega | (simp only [List.length_map, F_len, List.length_append, List.length_cons, List.length_nil] <;> omega)) only [↓vA, uA, Option.bind_some, Option.map_some, Option.bind_none, Option.map_none, List.length_cons, List.length_nil, List.length_map, List.length_append, List.set_cons_zero, List.set_cons_succ, List.set_nil, List.map_cons, List.map_nil, List.cons_append, List.nil_append, List.mem_cons, List.not_mem_nil, Nat.reduceLT, Nat.reduceLeDiff, Nat.reduceAdd, Nat.reduceEqDiff, Nat.zero_add, Nat.lt_add_one, not_false_eq_true, or_false, false_or, or_self, and_true, true_and, and_self, List.getD_cons_zero, List.getD_cons_succ, Nat.succ_ne_self, reduceCtorEq, ne_eq, List.replicate_zero, List.append_nil, Int.reduceToNat, Nat.zero_lt_succ, Nat.reduceSub, Nat.one_ne_zero, Nat.zero_ne_one]
        have : F k (fun k => pD (tp hand p q (W.to h k))) ++ [D.tup [.int ((W.to h k).1 : Nat), .int ((W.to h k).2 : Nat)]] = F (k + 1) (fun k => pD (tp hand p q (W.to h k))) := by rw [F_succ, tp_other _ e]; rfl
        rw [this]
        exact ⟨_, _, rfl⟩
    · rintro s ⟨x10, x11, rfl⟩
      simp (disch := first | omega | (simp only [List.length_map, F_len, List.length_append, List.length_cons, List.length_nil] <;> omega)) only [↓vA, uA, Option.bind_some, Option.map_some, Option.bind_none, Option.map_none, List.length_cons, List.length_nil, List.length_map, List.length_append, List.set_cons_zero, List.set_cons_succ, List.set_nil, List.map_cons, List.map_nil, List.cons_append, List.nil_append, List.mem_cons, List.not_mem_nil, Nat.reduceLT, Nat.reduceLeDiff, Nat.reduceAdd, Nat.reduceEqDiff, Nat.zero_add, Nat.lt_add_one, not_false_eq_true, or_false, false_or, or_self, and_true, true_and, and_self, List.getD_cons_zero, List.getD_cons_succ, Nat.succ_ne_self, reduceCtorEq, ne_eq, List.replicate_zero, List.append_nil, Int.reduceToNat, Nat.zero_lt_succ, Nat.reduceSub, Nat.one_ne_zero, Nat.zero_ne_one]
      refine v_wBr_dec (fun e => ?_) (fun e => ?_)
      · subst e
        simp (disch := first | omega | (simp only [List.length_map, F_len, List.length_append, List.length_cons, List.length_nil] <;> omega)) only [↓vA, uA, Option.bind_some, Option.map_some, Option.bind_none, Option.map_none, List.length_cons, List.length_nil, List.length_map, List.length_append, List.set_cons_zero, List.set_cons_succ, List.set_nil, List.map_cons, List.map_nil, List.cons_append, List.nil_append, List.mem_cons, List.not_mem_nil, Nat.reduceLT, Nat.reduceLeDiff, Nat.reduceAdd, Nat.reduceEqDiff, Nat.zero_add, Nat.lt_add_one, not_false_eq_true, or_false, false_or, or_self, and_true, true_and, and_self, List.getD_cons_zero, List.getD_cons_succ, Nat.succ_ne_self, reduceCtorEq, ne_eq, List.replicate_zero, List.append_nil, Int.reduceToNat, Nat.zero_lt_succ, Nat.reduceSub, Nat.one_ne_zero, Nat.zero_ne_one]
        have : F h (handD (exch W h p q)) ++ [D.tup [.int (W.mark h : Nat), .tup (F (W.deg h) (up (up (fun k => pD (tp h p q (W.to h k))) p (pD (tp h p q (W.to h q)))) q (pD (tp h p q (W.to h p)))))]] = F (h + 1) (handD (exch W h p q)) := by
          rw [F_succ]
          unfold handD pegsD
          congr 6
          refine F_ext fun k hk => ?_
          simp only [exch, up]
          by_cases e1 : k = q
          · subst e1
            have : tp h p k (h, k) = (h, p) := by rw [tp_get (hand := h) hpq (h, k) rfl]; simp only [if_neg (Ne.symm hpq), if_true]
            rw [if_pos rfl, this]
          · rw [if_neg e1]
            by_cases e2 : k = p
            · subst e2
              have : tp h k q (h, k) = (h, q) := by rw [tp_get (hand := h) hpq (h, k) rfl]; simp only [if_true]
              rw [if_pos rfl, this]
            · rw [if_neg e2]
              have : tp h p q (h, k) = (h, k) := by rw [tp_get (hand := h) hpq (h, k) rfl]; simp only [if_neg e1, if_neg e2]
              rw [this]
        rw [this]
        exact ⟨_, _, _, _, _, _, rfl⟩
      · simp (disch := first | omega | (simp only [List.length_map, F_len, List.length_append, List.length_cons, List.length_nil] <;> omega)) only [↓vA, uA, Option.bind_some, Option.map_some, Option.bind_none, Option.map_none, List.length_cons, List.length_nil, List.length_map, List.length_append, List.set_cons_zero, List.set_cons_succ, List.set_nil, List.map_cons, List.map_nil, List.cons_append, List.nil_append, List.mem_cons, List.not_mem_nil, Nat.reduceLT, Nat.reduceLeDiff, Nat.reduceAdd, Nat.reduceEqDiff, Nat.zero_add, Nat.lt_add_one, not_false_eq_true, or_false, false_or, or_self, and_true, true_and, and_self, List.getD_cons_zero, List.getD_cons_succ, Nat.succ_ne_self, reduceCtorEq, ne_eq, List.replicate_zero, List.append_nil, Int.reduceToNat, Nat.zero_lt_succ, Nat.reduceSub, Nat.one_ne_zero, Nat.zero_ne_one]
        have : F h (handD (exch W hand p q)) ++ [D.tup [.int (W.mark h : Nat), .tup (F (W.deg h) (fun k => pD (tp hand p q (W.to h k))))]] = F (h + 1) (handD (exch W hand p q)) := by
          rw [F_succ]
          unfold handD pegsD
          congr 6
          refine F_ext fun k hk => ?_
          simp only [exch]
          rw [tp_other (h, k) e]
        rw [this]
        exact ⟨_, _, _, _, _, _, rfl⟩
  · rintro s ⟨x6, x7, x8, x9, x10, x11, rfl⟩
    simp (disch := first | omega | (simp only [List.length_map, F_len, List.length_append, List.length_cons, List.length_nil] <;> omega)) only [↓vA, uA, Option.bind_some, Option.map_some, Option.bind_none, Option.map_none, List.length_cons, List.length_nil, List.length_map, List.length_append, List.set_cons_zero, List.set_cons_succ, List.set_nil, List.map_cons, List.map_nil, List.cons_append, List.nil_append, List.mem_cons, List.not_mem_nil, Nat.reduceLT, Nat.reduceLeDiff, Nat.reduceAdd, Nat.reduceEqDiff, Nat.zero_add, Nat.lt_add_one, not_false_eq_true, or_false, false_or, or_self, and_true, true_and, and_self, List.getD_cons_zero, List.getD_cons_succ, Nat.succ_ne_self, reduceCtorEq, ne_eq, List.replicate_zero, List.append_nil, Int.reduceToNat, Nat.zero_lt_succ, Nat.reduceSub, Nat.one_ne_zero, Nat.zero_ne_one]
    rfl
/-! ### what the changes come to -/
theorem webD_ext {W V : Web} (hn : W.n = V.n) (hm : ∀ h, h < W.n → W.mark h = V.mark h) (hd : ∀ h, h < W.n → W.deg h = V.deg h) (ht : ∀ h, h < W.n → ∀ p, p < W.deg h → W.to h p = V.to h p) : webD W = webD V := by
  unfold webD
  rw [hn]
  congr 1
  refine F_ext fun h hh => ?_
  rw [← hn] at hh
  unfold handD pegsD
  rw [hm h hh, hd h hh]
  congr 4
  refine F_ext fun p hp => ?_
  rw [ht h hh p (by rw [hd h hh]; exact hp)]
theorem inv_inv {n : Nat} {f : Nat → Nat} (hf : Prm n f) {j : Nat} (hj : j < n) : DR.inv n (DR.inv n f) j = f j := by
  have h1 := hf.inv.inv_lt hj
  have h2 := hf.inv.f_inv hj
  rw [← h2, hf.f_inv h1, h2]
theorem ren_ren {W : Web} {f : Nat → Nat} (ok : W.Ok) (hf : Prm W.n f) : webD (ren (ren W f) (DR.inv W.n f)) = webD W := by
  refine webD_ext rfl (fun h hh => ?_) (fun h hh => ?_) (fun h hh p hp => ?_)
  · have hh : h < W.n := hh
    simp only [ren, inv_inv hf hh, hf.inv_f hh]
  · have hh : h < W.n := hh
    simp only [ren, inv_inv hf hh, hf.inv_f hh]
  · have hh : h < W.n := hh
    simp only [ren, inv_inv hf hh, hf.inv_f hh] at hp ⊢
    rw [hf.inv_f (ok.tie h hh p hp).1]
theorem tp_tp {hand p q : Nat} (e : DR.End) : tp hand p q (tp hand p q e) = e := by
  by_cases h1 : e = (hand, p)
  · subst h1
    by_cases hpq : p = q
    · subst hpq; simp [tp]
    · have : tp hand p q (hand, p) = (hand, q) := by simp [tp]
      rw [this]
      have h2 : ¬ q = p := fun x => hpq x.symm
      simp [tp, h2]
  · by_cases h2 : e = (hand, q)
    · subst h2
      have : tp hand p q (hand, q) = (hand, p) := by unfold tp; rw [if_neg h1, if_pos rfl]
      rw [this]; simp [tp]
    · have : tp hand p q e = e := by simp only [tp]; rw [if_neg h1, if_neg h2]
      rw [this, this]
theorem tp_comm {hand p q : Nat} (e : DR.End) : tp hand q p e = tp hand p q e := by
  by_cases h1 : e = (hand, p)
  · subst h1
    by_cases hpq : p = q
    · subst hpq; rfl
    · have h2 : ¬ ((hand, p) : DR.End) = (hand, q) := fun x => hpq (Prod.mk.inj x).2
      unfold tp; rw [if_neg h2, if_pos rfl, if_pos rfl]
  · by_cases h2 : e = (hand, q)
    · subst h2
      unfold tp; rw [if_pos rfl, if_neg h1, if_pos rfl]
    · unfold tp; simp only [if_neg h1, if_neg h2]
theorem exch_comm {W : Web} {hand p q : Nat} : exch W hand q p = exch W hand p q := by
  unfold exch
  simp only [tp_comm]
theorem exch_exch {W : Web} {hand p q : Nat} : webD (exch (exch W hand p q) hand q p) = webD W := by
  rw [exch_comm]
  refine webD_ext rfl (fun _ _ => rfl) (fun _ _ => rfl) (fun h hh k hk => ?_)
  have e : ∀ e : DR.End, ((e.1, e.2) : DR.End) = e := fun _ => rfl
  simp only [exch, tp_tp, e]
end NH.PG

set_option Elab.async false
set_option linter.all false
set_option maxRecDepth 100000
set_option maxHeartbeats 1000000
set_option autoImplicit false
namespace NH.PG
open PySem L2
def c_is_leading : C := 
  (.cons (.ite (.boo false (.cons (.cmp .ne (.blt .len (.cons (.var 2) .nil)) (.blt .len (.cons (.var 0) .nil))) (.cons (.not (.blt .all (.cons (.lc [6] (.tn 6) (.iseq (.var 2)) .no (.cmp2 .le .lt (.int 0) (.var 6) (.blt .len (.cons (.var 1) .nil)))) .nil))) .nil))) (.cons (.ret (.bl false)) .nil) .nil)
  (.cons (.fr (.tt (.cons (.tn 3) (.cons (.tt (.cons (.tn 4) (.cons (.tn 5) .nil))) .nil))) (.ienum (.var 0)) (.cons (.ite (.cmp .ne (.idx (.var 1) (.idx (.var 2) (.var 3))) (.tup (.cons (.var 4) (.cons (.blt .tuple (.cons (.lc [6, 7] (.tt (.cons (.tn 6) (.cons (.tn 7) .nil))) (.iseq (.var 5)) .no (.tup (.cons (.idx (.var 2) (.var 6)) (.cons (.var 7) .nil)))) .nil)) .nil)))) (.cons (.ret (.bl false)) .nil) .nil) .nil))
  (.cons (.ret (.bl true)) .nil)))
def f_is_leading : Fd := ⟨3, [], 8, c_is_leading⟩
def c_led_from : C := 
  (.cons (.asg (.tw 3) (.disp false (.cons (.int 0) (.cons (.var 2) .nil)) .nil))
  (.cons (.asg (.tw 4) (.lst (.cons (.int 0) .nil)))
  (.cons (.asg (.tn 5) (.int 0))
  (.cons (.whl 100000 (.cmp .lt (.var 5) (.blt .len (.cons (.var 4) .nil))) (.cons (.asg (.tn 6) (.idx (.var 4) (.var 5))) (.cons (.asg (.tn 5) (.bin .add (.var 5) (.int 1))) (.cons (.asg (.tn 7) (.idx (.idx (.var 1) (.idx (.var 3) (.var 6))) (.int 1))) (.cons (.ite (.cmp .ne (.blt .len (.cons (.var 7) .nil)) (.blt .len (.cons (.idx (.idx (.var 0) (.var 6)) (.int 1)) .nil))) (.cons (.ret .non) .nil) .nil) (.cons (.fr (.tt (.cons (.tt (.cons (.tn 8) (.cons (.tn 9) .nil))) (.cons (.tt (.cons (.tn 10) (.cons (.tn 11) .nil))) .nil))) (.izip (.idx (.idx (.var 0) (.var 6)) (.int 1)) (.var 7)) (.cons (.ite (.cmp .notin (.var 8) (.var 3)) (.cons (.asg (.ti (.var 3) (.var 8)) (.var 10)) (.cons (.ex (.mth .append (.var 4) (.cons (.var 8) .nil))) .nil)) .nil) .nil)) .nil))))))
  (.cons (.ret (.blt .tuple (.cons (.lc [6] (.tn 6) (.irng (.cons (.blt .len (.cons (.var 0) .nil)) .nil)) .no (.idx (.var 3) (.var 6))) .nil))) .nil)))))
def f_led_from : Fd := ⟨3, [], 12, c_led_from⟩
def c_leadings : C := 
  (.cons (.asg (.tw 2) (.lst .nil))
  (.cons (.fr (.tn 3) (.irng (.cons (.blt .len (.cons (.var 1) .nil)) .nil)) (.cons (.asg (.tn 4) (.call "led_from" (.cons (.var 0) (.cons (.var 1) (.cons (.var 3) .nil))))) (.cons (.ite (.boo true (.cons (.cmp .notn (.var 4) .non) (.cons (.call "is_leading" (.cons (.var 0) (.cons (.var 1) (.cons (.var 4) .nil)))) .nil))) (.cons (.ex (.mth .append (.var 2) (.cons (.var 4) .nil))) .nil) .nil) .nil)))
  (.cons (.ret (.var 2)) .nil)))
def f_leadings : Fd := ⟨2, [], 5, c_leadings⟩
def c_followed : C := 
  (.cons (.ret (.blt .tuple (.cons (.lc [2] (.tn 2) (.iseq (.var 0)) .no (.idx (.var 1) (.var 2))) .nil))) .nil)
def f_followed : Fd := ⟨2, [], 3, c_followed⟩
def c_Lis_leading : C := 
  (.cons (.fr (.tt (.cons (.tn 3) (.cons (.tt (.cons (.tn 4) (.cons (.tn 5) .nil))) .nil))) (.ienum (.var 0)) (.cons (.ite (.boo false (.cons (.cmp .ne (.var 4) (.idx (.idx (.var 1) (.idx (.var 2) (.var 3))) (.int 0))) (.cons (.cmp .ne (.blt .len (.cons (.var 5) .nil)) (.blt .len (.cons (.idx (.idx (.var 1) (.idx (.var 2) (.var 3))) (.int 1)) .nil))) .nil))) (.cons (.ret (.bl false)) .nil) .nil) (.cons (.ite (.cmp .ne (.lc [6, 7] (.tt (.cons (.tn 6) (.cons (.tn 7) .nil))) (.iseq (.var 5)) .no (.tup (.cons (.idx (.var 2) (.var 6)) (.cons (.var 7) .nil)))) (.blt .list (.cons (.idx (.idx (.var 1) (.idx (.var 2) (.var 3))) (.int 1)) .nil))) (.cons (.ret (.bl false)) .nil) .nil) .nil)))
  (.cons (.ret (.cmp .gt (.blt .len (.cons (.var 0) .nil)) (.int 0))) .nil))
def f_Lis_leading : Fd := ⟨3, [], 8, c_Lis_leading⟩
def c_Ldue : C := 
  (.cons (.ite (.boo false (.cons (.cmp .ne (.blt .len (.cons (.var 2) .nil)) (.blt .len (.cons (.var 0) .nil))) (.cons (.not (.blt .all (.cons (.lc [3] (.tn 3) (.iseq (.var 2)) .no (.cmp2 .le .lt (.int 0) (.var 3) (.blt .len (.cons (.var 1) .nil)))) .nil))) .nil))) (.cons (.ret (.bl false)) .nil) .nil)
  (.cons (.ret (.call "_law_is_leading" (.cons (.var 0) (.cons (.var 1) (.cons (.var 2) .nil))))) .nil))
def f_Ldue : Fd := ⟨3, [], 4, c_Ldue⟩
end NH.PG

set_option Elab.async false
set_option linter.all false
set_option maxRecDepth 100000
set_option maxHeartbeats 1000000
set_option autoImplicit false
namespace NH.PG
open PySem L2 NH.DR
/-! ### leadings -/
def rowZ (m : Nat) (r : Nat → Int) : List D := F m fun k => .int (r k)
theorem dc_not {p : Prop} (h : ¬ p) : dc p = false := by
  cases e : dc p with
  | false => rfl
  | true => exact (h (dc_iff.mp e)).elim
theorem rowZ_L {m : Nat} {f : Nat → Nat} : rowZ m (fun k => ((f k : Nat) : Int)) = rowL m f := rfl
def LeadOn (W U : Web) (f : Nat → Nat) : Prop := ∀ h, h < W.n → U.mark (f h) = W.mark h ∧ U.deg (f h) = W.deg h ∧ ∀ p, p < W.deg h → U.to (f h) p = (f (W.to h p).1, (W.to h p).2)
noncomputable def leadZ (W U : Web) (m : Nat) (r : Nat → Int) : Bool := decide (m = W.n) && (decide (∀ k, k < m → 0 ≤ r k ∧ r k < (U.n : Int)) && dc (LeadOn W U fun h => (r h).toNat))
theorem lead_on {W U : Web} {f : Nat → Nat} (h : Lead W U f) : LeadOn W U f := fun k hk => ⟨h.mark k hk, h.deg k hk, h.to k hk⟩
theorem leadZ_nat {W U : Web} {f : Nat → Nat} (hl : ∀ h, h < W.n → f h < U.n) : leadZ W U W.n (fun k => ((f k : Nat) : Int)) = dc (Lead W U f) := by
  unfold leadZ
  have h1 : decide (∀ k, k < W.n → 0 ≤ ((f k : Nat) : Int) ∧ ((f k : Nat) : Int) < (U.n : Int)) = true := decide_eq_true fun k hk => ⟨by omega, by have := hl k hk; omega⟩
  rw [decide_eq_true rfl, h1]
  simp only [Bool.true_and, Int.toNat_natCast]
  by_cases h : Lead W U f
  · rw [dc_iff.mpr h, dc_iff.mpr (lead_on h)]
  · have h' : ¬ LeadOn W U f := fun x => h ⟨hl, fun k hk => (x k hk).1, fun k hk => (x k hk).2.1, fun k hk => (x k hk).2.2⟩
    rw [dc_not h, dc_not h']
def HandEq (U : Web) (g m d : Nat) (e : Nat → DR.End) : Prop := U.mark g = m ∧ U.deg g = d ∧ ∀ p, p < d → U.to g p = e p
theorem std_handT {m d : Nat} {e : Nat → DR.End} : Std 3 (.tup [.int (m : Nat), .tup (F d fun p => pD (e p))]) := .tup fun x hx => by
  simp only [List.mem_cons, List.not_mem_nil, or_false] at hx
  rcases hx with rfl | rfl
  · exact .int
  · exact .tup (std_F fun _ _ => std_p)
theorem hand_eqb {U : Web} {g m d : Nat} {e : Nat → DR.End} : (handD U g).eqb (.tup [.int (m : Nat), .tup (F d fun p => pD (e p))]) = dc (HandEq U g m d e) := by
  have iff := std_hand (W := U) (h := g) |>.eqb _ _ (std_handT (m := m) (d := d) (e := e))
  have iff2 : handD U g = .tup [.int (m : Nat), .tup (F d fun p => pD (e p))] ↔ HandEq U g m d e := by
    constructor
    · intro h
      unfold handD pegsD at h
      injection h with h
      injection h with h1 h
      injection h with h2 _
      injection h1 with h1
      injection h2 with h2
      obtain ⟨h3, h4⟩ := F_inj h2
      exact ⟨by omega, h3, fun p hp => pD_inj (h4 p (by omega))⟩
    · rintro ⟨rfl, rfl, h⟩
      unfold handD pegsD
      congr 4
      exact F_ext fun p hp => by rw [h p hp]
  cases hb : (handD U g).eqb (.tup [.int (m : Nat), .tup (F d fun p => pD (e p))]) with
  | true => rw [dc_iff.mpr (iff2.mp (iff.mp hb))]
  | false => rw [dc_not fun x => by rw [iff.mpr (iff2.mpr x)] at hb; cases hb]
theorem cmp_neH {U : Web} {g m d : Nat} {e : Nat → DR.End} : cmpCt .ne (.d (handD U g)) (.d (.tup [.int (m : Nat), .tup (F d fun p => pD (e p))])) = some (!dc (HandEq U g m d e)) := by
  rw [cmp_ne (std_hand.eqOk (by decide)) (std_handT.eqOk (by decide)) rfl rfl, hand_eqb]
theorem bls_F {n : Nat} {b : Nat → Bool} : blsOf (F n fun k => .bl (b k)) = some ((List.range n).map b) := by
  unfold F
  induction List.range n with
  | nil => rfl
  | cons a l ih => simp only [List.map_cons, blsOf, ih, Option.map_some]
theorem all_F {n : Nat} {P : Nat → Prop} [DecidablePred P] : ((List.range n).map fun k => decide (P k)).all id = decide (∀ k, k < n → P k) := by
  by_cases h : ∀ k, k < n → P k
  · rw [decide_eq_true h, List.all_eq_true]
    intro x hx
    obtain ⟨k, hk, rfl⟩ := List.mem_map.mp hx
    simpa using h k (List.mem_range.mp hk)
  · rw [decide_eq_false h]
    cases e : ((List.range n).map fun k => decide (P k)).all id with
    | false => rfl
    | true =>
      refine (h fun k hk => ?_).elim
      have := List.all_eq_true.mp e _ (List.mem_map.mpr ⟨k, List.mem_range.mpr hk, rfl⟩)
      simpa using this
theorem is_leading_run (cal : Cal) (W U : Web) (m : Nat) (r : Nat → Int) (st : List O) (hin : ∀ h, h < W.n → ∀ p, p < W.deg h → (W.to h p).1 < W.n) (hn : W.n ≤ 10000) (hm : m ≤ 10000) (hd : ∀ h, h < W.n → W.deg h ≤ 10000) :
    runFd cal f_is_leading [.val (webD W), .val (webD U), .val (.tup (rowZ m r))] st = .ok (.val (.bl (leadZ W U m r))) [] st := by
  refine vCO_eq (v_wCO_run ⟨rfl, rfl, by decide⟩ ?_)
  show V (denBl cal [] c_is_leading) _ ⟨[.val (webD W), .val (webD U), .val (.tup (rowZ m r)), .no, .no, .no, .no, .no], st⟩
  have len : lenCt (.d (.tup (rowZ m r))) = some m := by rw [len_tup]; unfold rowZ; rw [F_len]
  unfold c_is_leading
  simp (disch := first | omega | (simp only [List.length_map, F_len, List.length_append, List.length_cons, List.length_nil] <;> omega)) only [↓vA, uA, Option.bind_some, Option.map_some, Option.bind_none, Option.map_none, List.length_cons, List.length_nil, List.length_map, List.length_append, List.set_cons_zero, List.set_cons_succ, List.set_nil, List.map_cons, List.map_nil, List.cons_append, List.nil_append, List.mem_cons, List.not_mem_nil, Nat.reduceLT, Nat.reduceLeDiff, Nat.reduceAdd, Nat.reduceEqDiff, Nat.zero_add, Nat.lt_add_one, not_false_eq_true, or_false, false_or, or_self, and_true, true_and, and_self, List.getD_cons_zero, List.getD_cons_succ, Nat.succ_ne_self, reduceCtorEq, ne_eq, List.replicate_zero, List.append_nil, Int.reduceToNat, Nat.zero_lt_succ, Nat.reduceSub, Nat.one_ne_zero, Nat.zero_ne_one, f_is_leading, len, ct_web, len_web, items_web]
  refine v_wBo_orD (fun e => ?_) (fun e => ?_)
  · simp (disch := first | omega | (simp only [List.length_map, F_len, List.length_append, List.length_cons, List.length_nil] <;> omega)) only [↓vA, uA, Option.bind_some, Option.map_some, Option.bind_none, Option.map_none, List.length_cons, List.length_nil, List.length_map, List.length_append, List.set_cons_zero, List.set_cons_succ, List.set_nil, List.map_cons, List.map_nil, List.cons_append, List.nil_append, List.mem_cons, List.not_mem_nil, Nat.reduceLT, Nat.reduceLeDiff, Nat.reduceAdd, Nat.reduceEqDiff, Nat.zero_add, Nat.lt_add_one, not_false_eq_true, or_false, false_or, or_self, and_true, true_and, and_self, List.getD_cons_zero, List.getD_cons_succ, Nat.succ_ne_self, reduceCtorEq, ne_eq, List.replicate_zero, List.append_nil, Int.reduceToNat, Nat.zero_lt_succ, Nat.reduceSub, Nat.one_ne_zero, Nat.zero_ne_one]
    unfold leadZ
    rw [decide_eq_false e]; rfl
  · have e : m = W.n := by omega
    subst e
    simp (disch := first | omega | (simp only [List.length_map, F_len, List.length_append, List.length_cons, List.length_nil] <;> omega)) only [↓vA, uA, Option.bind_some, Option.map_some, Option.bind_none, Option.map_none, List.length_cons, List.length_nil, List.length_map, List.length_append, List.set_cons_zero, List.set_cons_succ, List.set_nil, List.map_cons, List.map_nil, List.cons_append, List.nil_append, List.mem_cons, List.not_mem_nil, Nat.reduceLT, Nat.reduceLeDiff, Nat.reduceAdd, Nat.reduceEqDiff, Nat.zero_add, Nat.lt_add_one, not_false_eq_true, or_false, false_or, or_self, and_true, true_and, and_self, List.getD_cons_zero, List.getD_cons_succ, Nat.succ_ne_self, reduceCtorEq, ne_eq, List.replicate_zero, List.append_nil, Int.reduceToNat, Nat.zero_lt_succ, Nat.reduceSub, Nat.one_ne_zero, Nat.zero_ne_one, rowZ, ct_web, len_web]
    refine lc_map (fun k => .bl (decide (0 ≤ r k ∧ r k < (U.n : Int)))) ?_ (fun k hk => ?_) ?_
    · omega
    · simp (disch := first | omega | (simp only [List.length_map, F_len, List.length_append, List.length_cons, List.length_nil] <;> omega)) only [↓vA, uA, Option.bind_some, Option.map_some, Option.bind_none, Option.map_none, List.length_cons, List.length_nil, List.length_map, List.length_append, List.set_cons_zero, List.set_cons_succ, List.set_nil, List.map_cons, List.map_nil, List.cons_append, List.nil_append, List.mem_cons, List.not_mem_nil, Nat.reduceLT, Nat.reduceLeDiff, Nat.reduceAdd, Nat.reduceEqDiff, Nat.zero_add, Nat.lt_add_one, not_false_eq_true, or_false, false_or, or_self, and_true, true_and, and_self, List.getD_cons_zero, List.getD_cons_succ, Nat.succ_ne_self, reduceCtorEq, ne_eq, List.replicate_zero, List.append_nil, Int.reduceToNat, Nat.zero_lt_succ, Nat.reduceSub, Nat.one_ne_zero, Nat.zero_ne_one, ct_web, len_web]
      refine v_wIf_dec (fun h => ?_) (fun h => ?_)
      · simp (disch := first | omega | (simp only [List.length_map, F_len, List.length_append, List.length_cons, List.length_nil] <;> omega)) only [↓vA, uA, Option.bind_some, Option.map_some, Option.bind_none, Option.map_none, List.length_cons, List.length_nil, List.length_map, List.length_append, List.set_cons_zero, List.set_cons_succ, List.set_nil, List.map_cons, List.map_nil, List.cons_append, List.nil_append, List.mem_cons, List.not_mem_nil, Nat.reduceLT, Nat.reduceLeDiff, Nat.reduceAdd, Nat.reduceEqDiff, Nat.zero_add, Nat.lt_add_one, not_false_eq_true, or_false, false_or, or_self, and_true, true_and, and_self, List.getD_cons_zero, List.getD_cons_succ, Nat.succ_ne_self, reduceCtorEq, ne_eq, List.replicate_zero, List.append_nil, Int.reduceToNat, Nat.zero_lt_succ, Nat.reduceSub, Nat.one_ne_zero, Nat.zero_ne_one, ct_web, len_web, h]
      · simp (disch := first | omega | (simp only [List.length_map, F_len, List.length_append, List.length_cons, List.length_nil] <;> omega)) only [↓vA, uA, Option.bind_some, Option.map_some, Option.bind_none, Option.map_none, List.length_cons, List.length_nil, List.length_map, List.length_append, List.set_cons_zero, List.set_cons_succ, List.set_nil, List.map_cons, List.map_nil, List.cons_append, List.nil_append, List.mem_cons, List.not_mem_nil, Nat.reduceLT, Nat.reduceLeDiff, Nat.reduceAdd, Nat.reduceEqDiff, Nat.zero_add, Nat.lt_add_one, not_false_eq_true, or_false, false_or, or_self, and_true, true_and, and_self, List.getD_cons_zero, List.getD_cons_succ, Nat.succ_ne_self, reduceCtorEq, ne_eq, List.replicate_zero, List.append_nil, Int.reduceToNat, Nat.zero_lt_succ, Nat.reduceSub, Nat.one_ne_zero, Nat.zero_ne_one, h, false_and, decide_false]
    simp (disch := first | omega | (simp only [List.length_map, F_len, List.length_append, List.length_cons, List.length_nil] <;> omega)) only [↓vA, uA, Option.bind_some, Option.map_some, Option.bind_none, Option.map_none, List.length_cons, List.length_nil, List.length_map, List.length_append, List.set_cons_zero, List.set_cons_succ, List.set_nil, List.map_cons, List.map_nil, List.cons_append, List.nil_append, List.mem_cons, List.not_mem_nil, Nat.reduceLT, Nat.reduceLeDiff, Nat.reduceAdd, Nat.reduceEqDiff, Nat.zero_add, Nat.lt_add_one, not_false_eq_true, or_false, false_or, or_self, and_true, true_and, and_self, List.getD_cons_zero, List.getD_cons_succ, Nat.succ_ne_self, reduceCtorEq, ne_eq, List.replicate_zero, List.append_nil, Int.reduceToNat, Nat.zero_lt_succ, Nat.reduceSub, Nat.one_ne_zero, Nat.zero_ne_one, b_all, bls_F, all_F]
    refine v_wBr_split (fun h => ?_) (fun h => ?_)
    · simp (disch := first | omega | (simp only [List.length_map, F_len, List.length_append, List.length_cons, List.length_nil] <;> omega)) only [↓vA, uA, Option.bind_some, Option.map_some, Option.bind_none, Option.map_none, List.length_cons, List.length_nil, List.length_map, List.length_append, List.set_cons_zero, List.set_cons_succ, List.set_nil, List.map_cons, List.map_nil, List.cons_append, List.nil_append, List.mem_cons, List.not_mem_nil, Nat.reduceLT, Nat.reduceLeDiff, Nat.reduceAdd, Nat.reduceEqDiff, Nat.zero_add, Nat.lt_add_one, not_false_eq_true, or_false, false_or, or_self, and_true, true_and, and_self, List.getD_cons_zero, List.getD_cons_succ, Nat.succ_ne_self, reduceCtorEq, ne_eq, List.replicate_zero, List.append_nil, Int.reduceToNat, Nat.zero_lt_succ, Nat.reduceSub, Nat.one_ne_zero, Nat.zero_ne_one]
      unfold leadZ
      have : decide (∀ k, k < W.n → 0 ≤ r k ∧ r k < (U.n : Int)) = false := by simpa using h
      rw [this]; simp
    · have h2 : ∀ k, k < W.n → 0 ≤ r k ∧ r k < (U.n : Int) := by simpa using h
      have h3 : leadZ W U W.n r = dc (LeadOn W U fun h => (r h).toNat) := by
        unfold leadZ
        rw [decide_eq_true rfl, decide_eq_true h2]; rfl
      rw [h3]
      have e : F W.n (fun k => D.int (r k)) = F W.n (fun k => .int (((r k).toNat : Nat) : Int)) := F_ext fun k hk => by rw [Int.toNat_of_nonneg (h2 k hk).1]
      rw [e]
      have h4 : ∀ k, k < W.n → (r k).toNat < U.n := fun k hk => by have := h2 k hk; omega
      generalize hfe : (fun h => (r h).toNat) = f
      have h4 : ∀ k, k < W.n → f k < U.n := fun k hk => by rw [← hfe]; exact h4 k hk
      have row : ∀ k, k < W.n → (F W.n fun k => D.int ((f k : Nat) : Int))[k]? = some (.int ((f k : Nat) : Int)) := fun k hk => F_get hk
      have hf : (fun k => D.int (((r k).toNat : Nat) : Int)) = fun k => D.int ((f k : Nat) : Int) := by rw [← hfe]
      rw [hf]
      simp (disch := first | omega | (simp only [List.length_map, F_len, List.length_append, List.length_cons, List.length_nil] <;> omega)) only [↓vA, uA, Option.bind_some, Option.map_some, Option.bind_none, Option.map_none, List.length_cons, List.length_nil, List.length_map, List.length_append, List.set_cons_zero, List.set_cons_succ, List.set_nil, List.map_cons, List.map_nil, List.cons_append, List.nil_append, List.mem_cons, List.not_mem_nil, Nat.reduceLT, Nat.reduceLeDiff, Nat.reduceAdd, Nat.reduceEqDiff, Nat.zero_add, Nat.lt_add_one, not_false_eq_true, or_false, false_or, or_self, and_true, true_and, and_self, List.getD_cons_zero, List.getD_cons_succ, Nat.succ_ne_self, reduceCtorEq, ne_eq, List.replicate_zero, List.append_nil, Int.reduceToNat, Nat.zero_lt_succ, Nat.reduceSub, Nat.one_ne_zero, Nat.zero_ne_one, items_web]
      refine for_ix (fun k s => ∃ (x3 x4 x5 : Sl), (∀ h, h < k → U.mark (f h) = W.mark h ∧ U.deg (f h) = W.deg h ∧ ∀ p, p < W.deg h → U.to (f h) p = (f (W.to h p).1, (W.to h p).2)) ∧ s = ⟨[.val (webD W), .val (webD U), .val (.tup (F W.n fun k => .int ((f k : Nat) : Int))), x3, x4, x5, .no, .no], st⟩) ?_ ?_ ?_
      · exact ⟨_, _, _, fun h hh => by omega, rfl⟩
      · rintro k hk s ⟨x3, x4, x5, hg, rfl⟩
        have h5 := h4 k hk
        have dg := hd k hk
        simp (disch := first | omega | (simp only [List.length_map, F_len, List.length_append, List.length_cons, List.length_nil] <;> omega)) only [↓vA, uA, Option.bind_some, Option.map_some, Option.bind_none, Option.map_none, List.length_cons, List.length_nil, List.length_map, List.length_append, List.set_cons_zero, List.set_cons_succ, List.set_nil, List.map_cons, List.map_nil, List.cons_append, List.nil_append, List.mem_cons, List.not_mem_nil, Nat.reduceLT, Nat.reduceLeDiff, Nat.reduceAdd, Nat.reduceEqDiff, Nat.zero_add, Nat.lt_add_one, not_false_eq_true, or_false, false_or, or_self, and_true, true_and, and_self, List.getD_cons_zero, List.getD_cons_succ, Nat.succ_ne_self, reduceCtorEq, ne_eq, List.replicate_zero, List.append_nil, Int.reduceToNat, Nat.zero_lt_succ, Nat.reduceSub, Nat.one_ne_zero, Nat.zero_ne_one, items_hand, ct_web, idx_web, items_pegs]
        refine lc_map (fun p => pD (f (W.to k p).1, (W.to k p).2)) ?_ (fun p hp => ?_) ?_
        · omega
        · have := hin k hk p hp
          simp (disch := first | omega | (simp only [List.length_map, F_len, List.length_append, List.length_cons, List.length_nil] <;> omega)) only [↓vA, uA, Option.bind_some, Option.map_some, Option.bind_none, Option.map_none, List.length_cons, List.length_nil, List.length_map, List.length_append, List.set_cons_zero, List.set_cons_succ, List.set_nil, List.map_cons, List.map_nil, List.cons_append, List.nil_append, List.mem_cons, List.not_mem_nil, Nat.reduceLT, Nat.reduceLeDiff, Nat.reduceAdd, Nat.reduceEqDiff, Nat.zero_add, Nat.lt_add_one, not_false_eq_true, or_false, false_or, or_self, and_true, true_and, and_self, List.getD_cons_zero, List.getD_cons_succ, Nat.succ_ne_self, reduceCtorEq, ne_eq, List.replicate_zero, List.append_nil, Int.reduceToNat, Nat.zero_lt_succ, Nat.reduceSub, Nat.one_ne_zero, Nat.zero_ne_one, items_p, pD_mk]
        simp (disch := first | omega | (simp only [List.length_map, F_len, List.length_append, List.length_cons, List.length_nil] <;> omega)) only [↓vA, uA, Option.bind_some, Option.map_some, Option.bind_none, Option.map_none, List.length_cons, List.length_nil, List.length_map, List.length_append, List.set_cons_zero, List.set_cons_succ, List.set_nil, List.map_cons, List.map_nil, List.cons_append, List.nil_append, List.mem_cons, List.not_mem_nil, Nat.reduceLT, Nat.reduceLeDiff, Nat.reduceAdd, Nat.reduceEqDiff, Nat.zero_add, Nat.lt_add_one, not_false_eq_true, or_false, false_or, or_self, and_true, true_and, and_self, List.getD_cons_zero, List.getD_cons_succ, Nat.succ_ne_self, reduceCtorEq, ne_eq, List.replicate_zero, List.append_nil, Int.reduceToNat, Nat.zero_lt_succ, Nat.reduceSub, Nat.one_ne_zero, Nat.zero_ne_one, ct_hand, cmp_neH]
        refine v_wBr_split (fun h => ?_) (fun h => ?_)
        · have hne : ¬ HandEq U (f k) (W.mark k) (W.deg k) (fun p => (f (W.to k p).1, (W.to k p).2)) := by
            intro x
            rw [dc_iff.mpr x] at h
            cases h
          simp (disch := first | omega | (simp only [List.length_map, F_len, List.length_append, List.length_cons, List.length_nil] <;> omega)) only [↓vA, uA, Option.bind_some, Option.map_some, Option.bind_none, Option.map_none, List.length_cons, List.length_nil, List.length_map, List.length_append, List.set_cons_zero, List.set_cons_succ, List.set_nil, List.map_cons, List.map_nil, List.cons_append, List.nil_append, List.mem_cons, List.not_mem_nil, Nat.reduceLT, Nat.reduceLeDiff, Nat.reduceAdd, Nat.reduceEqDiff, Nat.zero_add, Nat.lt_add_one, not_false_eq_true, or_false, false_or, or_self, and_true, true_and, and_self, List.getD_cons_zero, List.getD_cons_succ, Nat.succ_ne_self, reduceCtorEq, ne_eq, List.replicate_zero, List.append_nil, Int.reduceToNat, Nat.zero_lt_succ, Nat.reduceSub, Nat.one_ne_zero, Nat.zero_ne_one]
          rw [dc_not fun x => hne (x k hk)]
        · have he : HandEq U (f k) (W.mark k) (W.deg k) (fun p => (f (W.to k p).1, (W.to k p).2)) := by
            by_cases x : HandEq U (f k) (W.mark k) (W.deg k) (fun p => (f (W.to k p).1, (W.to k p).2))
            · exact x
            · rw [dc_not x] at h; cases h
          simp (disch := first | omega | (simp only [List.length_map, F_len, List.length_append, List.length_cons, List.length_nil] <;> omega)) only [↓vA, uA, Option.bind_some, Option.map_some, Option.bind_none, Option.map_none, List.length_cons, List.length_nil, List.length_map, List.length_append, List.set_cons_zero, List.set_cons_succ, List.set_nil, List.map_cons, List.map_nil, List.cons_append, List.nil_append, List.mem_cons, List.not_mem_nil, Nat.reduceLT, Nat.reduceLeDiff, Nat.reduceAdd, Nat.reduceEqDiff, Nat.zero_add, Nat.lt_add_one, not_false_eq_true, or_false, false_or, or_self, and_true, true_and, and_self, List.getD_cons_zero, List.getD_cons_succ, Nat.succ_ne_self, reduceCtorEq, ne_eq, List.replicate_zero, List.append_nil, Int.reduceToNat, Nat.zero_lt_succ, Nat.reduceSub, Nat.one_ne_zero, Nat.zero_ne_one]
          refine ⟨_, _, _, fun h hh => ?_, rfl⟩
          by_cases e : h = k
          · subst e; exact he
          · exact hg h (by omega)
      · rintro s ⟨x3, x4, x5, hg, rfl⟩
        simp (disch := first | omega | (simp only [List.length_map, F_len, List.length_append, List.length_cons, List.length_nil] <;> omega)) only [↓vA, uA, Option.bind_some, Option.map_some, Option.bind_none, Option.map_none, List.length_cons, List.length_nil, List.length_map, List.length_append, List.set_cons_zero, List.set_cons_succ, List.set_nil, List.map_cons, List.map_nil, List.cons_append, List.nil_append, List.mem_cons, List.not_mem_nil, Nat.reduceLT, Nat.reduceLeDiff, Nat.reduceAdd, Nat.reduceEqDiff, Nat.zero_add, Nat.lt_add_one, not_false_eq_true, or_false, false_or, or_self, and_true, true_and, and_self, List.getD_cons_zero, List.getD_cons_succ, Nat.succ_ne_self, reduceCtorEq, ne_eq, List.replicate_zero, List.append_nil, Int.reduceToNat, Nat.zero_lt_succ, Nat.reduceSub, Nat.one_ne_zero, Nat.zero_ne_one]
        rw [dc_iff.mpr (show LeadOn W U f from hg)]
theorem followed_run (cal : Cal) (n m : Nat) (f g : Nat → Nat) (st : List O) (hn : n ≤ 10000) (hf : ∀ k, k < n → f k < m) :
    runFd cal f_followed [.val (.tup (rowL n f)), .val (.tup (rowL m g))] st = .ok (.val (.tup (rowL n fun k => g (f k)))) [] st := by
  refine vCO_eq (v_wCO_run ⟨rfl, rfl, by decide⟩ ?_)
  show V (denBl cal [] c_followed) _ ⟨[.val (.tup (rowL n f)), .val (.tup (rowL m g)), .no], st⟩
  unfold c_followed
  simp (disch := first | omega | (simp only [List.length_map, F_len, List.length_append, List.length_cons, List.length_nil] <;> omega)) only [↓vA, uA, Option.bind_some, Option.map_some, Option.bind_none, Option.map_none, List.length_cons, List.length_nil, List.length_map, List.length_append, List.set_cons_zero, List.set_cons_succ, List.set_nil, List.map_cons, List.map_nil, List.cons_append, List.nil_append, List.mem_cons, List.not_mem_nil, Nat.reduceLT, Nat.reduceLeDiff, Nat.reduceAdd, Nat.reduceEqDiff, Nat.zero_add, Nat.lt_add_one, not_false_eq_true, or_false, false_or, or_self, and_true, true_and, and_self, List.getD_cons_zero, List.getD_cons_succ, Nat.succ_ne_self, reduceCtorEq, ne_eq, List.replicate_zero, List.append_nil, Int.reduceToNat, Nat.zero_lt_succ, Nat.reduceSub, Nat.one_ne_zero, Nat.zero_ne_one, f_followed, rowL]
  refine lc_map (fun k => .int ((g (f k) : Nat) : Int)) ?_ (fun k hk => ?_) ?_
  · omega
  · have := hf k hk
    simp (disch := first | omega | (simp only [List.length_map, F_len, List.length_append, List.length_cons, List.length_nil] <;> omega)) only [↓vA, uA, Option.bind_some, Option.map_some, Option.bind_none, Option.map_none, List.length_cons, List.length_nil, List.length_map, List.length_append, List.set_cons_zero, List.set_cons_succ, List.set_nil, List.map_cons, List.map_nil, List.cons_append, List.nil_append, List.mem_cons, List.not_mem_nil, Nat.reduceLT, Nat.reduceLeDiff, Nat.reduceAdd, Nat.reduceEqDiff, Nat.zero_add, Nat.lt_add_one, not_false_eq_true, or_false, false_or, or_self, and_true, true_and, and_self, List.getD_cons_zero, List.getD_cons_succ, Nat.succ_ne_self, reduceCtorEq, ne_eq, List.replicate_zero, List.append_nil, Int.reduceToNat, Nat.zero_lt_succ, Nat.reduceSub, Nat.one_ne_zero, Nat.zero_ne_one]
  simp (disch := first | omega | (simp only [List.length_map, F_len, List.length_append, List.length_cons, List.length_nil] <;> omega)) only [↓vA, uA, Option.bind_some, Option.map_some, Option.bind_none, Option.map_none, List.length_cons, List.length_nil, List.length_map, List.length_append, List.set_cons_zero, List.set_cons_succ, List.set_nil, List.map_cons, List.map_nil, List.cons_append, List.nil_append, List.mem_cons, List.not_mem_nil, Nat.reduceLT, Nat.reduceLeDiff, Nat.reduceAdd, Nat.reduceEqDiff, Nat.zero_add, Nat.lt_add_one, not_false_eq_true, or_false, false_or, or_self, and_true, true_and, and_self, List.getD_cons_zero, List.getD_cons_succ, Nat.succ_ne_self, reduceCtorEq, ne_eq, List.replicate_zero, List.append_nil, Int.reduceToNat, Nat.zero_lt_succ, Nat.reduceSub, Nat.one_ne_zero, Nat.zero_ne_one]
theorem lead_unique {W U : Web} {f g : Nat → Nat} (ok : W.Ok) (hf : Lead W U f) (hg : Lead W U g) (h0 : f 0 = g 0) : ∀ h, h < W.n → f h = g h := by
  have : ∀ b, Reach W 0 b → f b = g b := by
    intro b r
    induction r with
    | refl => exact h0
    | @step b p r hb hp ih =>
      have h1 := hf.to b hb p hp
      have h2 := hg.to b hb p hp
      rw [ih] at h1
      rw [h1] at h2
      exact (Prod.ext_iff.mp h2).1
  exact fun h hh => this h (ok.conn h hh)
/-- what is known of a row that comes by ties alone -/
structure LF (W U : Web) (b : Nat) (kvs : List (Key × D)) (line : List Nat) (v : Nat → Nat) : Prop where
  nd : line.Nodup
  rg : ∀ h ∈ line, h < W.n ∧ v h < U.n ∧ lookD kvs (.inl (h : Int)) = some (.int ((v h : Nat) : Int))
  no : ∀ h, h ∉ line → lookD kvs (.inl ((h : Nat) : Int)) = none
  hd : line[0]? = some 0
  v0 : v 0 = b
  fo : ∀ f, Lead W U f → f 0 = b → ∀ h ∈ line, f h = v h
  len : kvs.length ≤ line.length
theorem in_dk {kvs : List (Key × D)} {h : Nat} : inCt (.d (.int (h : Int))) (.o (.dk kvs)) = some (lookD kvs (.inl (h : Int))).isSome := rfl
theorem led_from_run (cal : Cal) (W U : Web) (b : Nat) (st : List O) (ok : W.Ok) (hu : ∀ h, h < U.n → ∀ p, p < U.deg h → (U.to h p).1 < U.n) (hn : W.n ≤ 10000) (hb : b < U.n) :
    vCO (runFd cal f_led_from [.val (webD W), .val (webD U), .val (.int (b : Nat))] st) fun r os st' => os = [] ∧ st' = st ∧
      ((r = .val .non ∧ ∀ f, Lead W U f → f 0 ≠ b) ∨ ∃ v, r = .val (.tup (rowL W.n v)) ∧ (∀ h, h < W.n → v h < U.n) ∧ v 0 = b ∧ ∀ f, Lead W U f → f 0 = b → ∀ h, h < W.n → f h = v h) := by
  refine v_wCO_run ⟨rfl, rfl, by decide⟩ ?_
  show V (denBl cal [] c_led_from) _ ⟨[.val (webD W), .val (webD U), .val (.int (b : Nat)), .no, .no, .no, .no, .no, .no, .no, .no, .no], st⟩
  have d1 : dispR [.int 0, .int ((b : Nat) : Int)] = some (.new (.dk (mergeD [] [((.inl 0 : Key), D.int ((b : Nat) : Int))]))) := rfl
  have lk : ∀ x : Key, lookD (mergeD [] [((.inl 0 : Key), D.int ((b : Nat) : Int))]) x = if x = .inl 0 then some (.int ((b : Nat) : Int)) else none := fun x => by
    have : mergeD [] [((.inl 0 : Key), D.int ((b : Nat) : Int))] = putD [] (.inl 0) (.int ((b : Nat) : Int)) := rfl
    rw [this, look_put, look_nil]
  have l1 : (mergeD [] [((.inl 0 : Key), D.int ((b : Nat) : Int))]).length ≤ 1 := Nat.le_refl 1
  unfold c_led_from
  simp (disch := first | omega | (simp only [List.length_map, F_len, List.length_append, List.length_cons, List.length_nil] <;> omega)) only [↓vA, uA, Option.bind_some, Option.map_some, Option.bind_none, Option.map_none, List.length_cons, List.length_nil, List.length_map, List.length_append, List.set_cons_zero, List.set_cons_succ, List.set_nil, List.map_cons, List.map_nil, List.cons_append, List.nil_append, List.mem_cons, List.not_mem_nil, Nat.reduceLT, Nat.reduceLeDiff, Nat.reduceAdd, Nat.reduceEqDiff, Nat.zero_add, Nat.lt_add_one, not_false_eq_true, or_false, false_or, or_self, and_true, true_and, and_self, List.getD_cons_zero, List.getD_cons_succ, Nat.succ_ne_self, reduceCtorEq, ne_eq, List.replicate_zero, List.append_nil, Int.reduceToNat, Nat.zero_lt_succ, Nat.reduceSub, Nat.one_ne_zero, Nat.zero_ne_one, f_led_from, d1]
  generalize mergeD [] [((.inl 0 : Key), D.int ((b : Nat) : Int))] = kv0 at lk l1
  have e0 : [D.int 0] = [0].map nD := rfl
  rw [e0]
  refine while_W (fun m s => ∃ (kvs : List (Key × D)) (line : List Nat) (v : Nat → Nat) (at_ : Nat) (x6 x7 x8 x9 x10 x11 : Sl), m = W.n - at_ ∧ at_ ≤ line.length ∧ LF W U b kvs line v ∧ (∀ i h, i < at_ → line[i]? = some h → ∀ p, p < W.deg h → (W.to h p).1 ∈ line) ∧
      s = ⟨[.val (webD W), .val (webD U), .val (.int (b : Nat)), .own (.dk kvs), .own (.lst (line.map nD)), .val (.int (at_ : Nat)), x6, x7, x8, x9, x10, x11], st⟩) ?_ (n := W.n - 0) (by omega) ?_
  · rintro m s ⟨kvs, line, v, at_, x6, x7, x8, x9, x10, x11, rfl, ha, lf, cl, rfl⟩
    have hl : line.length ≤ W.n := nodup_len W.n line lf.nd fun h hh => (lf.rg h hh).1
    simp (disch := first | omega | (simp only [List.length_map, F_len, List.length_append, List.length_cons, List.length_nil] <;> omega)) only [↓vA, uA, Option.bind_some, Option.map_some, Option.bind_none, Option.map_none, List.length_cons, List.length_nil, List.length_map, List.length_append, List.set_cons_zero, List.set_cons_succ, List.set_nil, List.map_cons, List.map_nil, List.cons_append, List.nil_append, List.mem_cons, List.not_mem_nil, Nat.reduceLT, Nat.reduceLeDiff, Nat.reduceAdd, Nat.reduceEqDiff, Nat.zero_add, Nat.lt_add_one, not_false_eq_true, or_false, false_or, or_self, and_true, true_and, and_self, List.getD_cons_zero, List.getD_cons_succ, Nat.succ_ne_self, reduceCtorEq, ne_eq, List.replicate_zero, List.append_nil, Int.reduceToNat, Nat.zero_lt_succ, Nat.reduceSub, Nat.one_ne_zero, Nat.zero_ne_one]
    refine v_wIf_dec (fun e => ?_) (fun e => ?_)
    · have hg : line[at_]? = some (line.getD at_ 0) := by simp [e]
      have hm : line.getD at_ 0 ∈ line := getD_mem e
      generalize line.getD at_ 0 = q at hg hm
      obtain ⟨r1, r2, r3⟩ := lf.rg q hm
      have hg2 : (line.map nD)[at_]? = some (.int ((q : Nat) : Int)) := by rw [List.getElem?_map, hg]; rfl
      simp (disch := first | omega | (simp only [List.length_map, F_len, List.length_append, List.length_cons, List.length_nil] <;> omega)) only [↓vA, uA, Option.bind_some, Option.map_some, Option.bind_none, Option.map_none, List.length_cons, List.length_nil, List.length_map, List.length_append, List.set_cons_zero, List.set_cons_succ, List.set_nil, List.map_cons, List.map_nil, List.cons_append, List.nil_append, List.mem_cons, List.not_mem_nil, Nat.reduceLT, Nat.reduceLeDiff, Nat.reduceAdd, Nat.reduceEqDiff, Nat.zero_add, Nat.lt_add_one, not_false_eq_true, or_false, false_or, or_self, and_true, true_and, and_self, List.getD_cons_zero, List.getD_cons_succ, Nat.succ_ne_self, reduceCtorEq, ne_eq, List.replicate_zero, List.append_nil, Int.reduceToNat, Nat.zero_lt_succ, Nat.reduceSub, Nat.one_ne_zero, Nat.zero_ne_one, hg2, r3, ct_web, idx_web, ct_hand, idx_hand1, ct_pegs, len_pegs]
      refine v_wBr_dec (fun e2 => ?_) (fun e2 => ?_)
      · simp (disch := first | omega | (simp only [List.length_map, F_len, List.length_append, List.length_cons, List.length_nil] <;> omega)) only [↓vA, uA, Option.bind_some, Option.map_some, Option.bind_none, Option.map_none, List.length_cons, List.length_nil, List.length_map, List.length_append, List.set_cons_zero, List.set_cons_succ, List.set_nil, List.map_cons, List.map_nil, List.cons_append, List.nil_append, List.mem_cons, List.not_mem_nil, Nat.reduceLT, Nat.reduceLeDiff, Nat.reduceAdd, Nat.reduceEqDiff, Nat.zero_add, Nat.lt_add_one, not_false_eq_true, or_false, false_or, or_self, and_true, true_and, and_self, List.getD_cons_zero, List.getD_cons_succ, Nat.succ_ne_self, reduceCtorEq, ne_eq, List.replicate_zero, List.append_nil, Int.reduceToNat, Nat.zero_lt_succ, Nat.reduceSub, Nat.one_ne_zero, Nat.zero_ne_one]
        refine .inl fun f hf h0 => e2 ?_
        rw [← hf.deg q r1, lf.fo f hf h0 q hm]
      · have e2 : U.deg (v q) = W.deg q := by omega
        have b1 : bothD (pegsD W q) (pegsD U (v q)) = some (F (W.deg q) (fun p => pD (W.to q p)), F (U.deg (v q)) (fun p => pD (U.to (v q) p))) := rfl
        simp (disch := first | omega | (simp only [List.length_map, F_len, List.length_append, List.length_cons, List.length_nil] <;> omega)) only [↓vA, uA, Option.bind_some, Option.map_some, Option.bind_none, Option.map_none, List.length_cons, List.length_nil, List.length_map, List.length_append, List.set_cons_zero, List.set_cons_succ, List.set_nil, List.map_cons, List.map_nil, List.cons_append, List.nil_append, List.mem_cons, List.not_mem_nil, Nat.reduceLT, Nat.reduceLeDiff, Nat.reduceAdd, Nat.reduceEqDiff, Nat.zero_add, Nat.lt_add_one, not_false_eq_true, or_false, false_or, or_self, and_true, true_and, and_self, List.getD_cons_zero, List.getD_cons_succ, Nat.succ_ne_self, reduceCtorEq, ne_eq, List.replicate_zero, List.append_nil, Int.reduceToNat, Nat.zero_lt_succ, Nat.reduceSub, Nat.one_ne_zero, Nat.zero_ne_one, ct_web, idx_web, ct_hand, idx_hand1, b1]
        rw [e2, Nat.min_self]
        refine for_ix (fun k s => ∃ (kvs : List (Key × D)) (ln : List Nat) (v' : Nat → Nat) (x8 x9 x10 x11 : Sl), (∃ l, ln = line ++ l) ∧ LF W U b kvs ln v' ∧ (∀ h ∈ line, v' h = v h) ∧ (∀ p, p < k → (W.to q p).1 ∈ ln) ∧
          s = ⟨[.val (webD W), .val (webD U), .val (.int (b : Nat)), .own (.dk kvs), .own (.lst (ln.map nD)), .val (.int ((at_ + 1 : Nat) : Int)), .val (.int (q : Nat)), .val (pegsD U (v q)), x8, x9, x10, x11], st⟩) ?_ ?_ ?_
        · exact ⟨kvs, line, v, _, _, _, _, ⟨[], by simp⟩, lf, fun _ _ => rfl, fun p hp => by omega, rfl⟩
        · rintro k hk s ⟨kv, ln, v', x8, x9, x10, x11, ⟨l, rfl⟩, lf', hv, ct, rfl⟩
          have hl2 : line.length + l.length ≤ W.n := by simpa using nodup_len W.n (line ++ l) lf'.nd fun h hh => (lf'.rg h hh).1
          have hl3 : kv.length ≤ line.length + l.length := by simpa using lf'.len
          have t1 := (ok.tie q r1 k hk).1
          have t2 := hu (v q) r2 k (by omega)
          simp (disch := first | omega | (simp only [List.length_map, F_len, List.length_append, List.length_cons, List.length_nil] <;> omega)) only [↓vA, uA, Option.bind_some, Option.map_some, Option.bind_none, Option.map_none, List.length_cons, List.length_nil, List.length_map, List.length_append, List.set_cons_zero, List.set_cons_succ, List.set_nil, List.map_cons, List.map_nil, List.cons_append, List.nil_append, List.mem_cons, List.not_mem_nil, Nat.reduceLT, Nat.reduceLeDiff, Nat.reduceAdd, Nat.reduceEqDiff, Nat.zero_add, Nat.lt_add_one, not_false_eq_true, or_false, false_or, or_self, and_true, true_and, and_self, List.getD_cons_zero, List.getD_cons_succ, Nat.succ_ne_self, reduceCtorEq, ne_eq, List.replicate_zero, List.append_nil, Int.reduceToNat, Nat.zero_lt_succ, Nat.reduceSub, Nat.one_ne_zero, Nat.zero_ne_one, items_p, cmp_notin, in_dk]
          by_cases hm2 : (W.to q k).1 ∈ line ++ l
          · have := (lf'.rg _ hm2).2.2
            simp (disch := first | omega | (simp only [List.length_map, F_len, List.length_append, List.length_cons, List.length_nil] <;> omega)) only [↓vA, uA, Option.bind_some, Option.map_some, Option.bind_none, Option.map_none, List.length_cons, List.length_nil, List.length_map, List.length_append, List.set_cons_zero, List.set_cons_succ, List.set_nil, List.map_cons, List.map_nil, List.cons_append, List.nil_append, List.mem_cons, List.not_mem_nil, Nat.reduceLT, Nat.reduceLeDiff, Nat.reduceAdd, Nat.reduceEqDiff, Nat.zero_add, Nat.lt_add_one, not_false_eq_true, or_false, false_or, or_self, and_true, true_and, and_self, List.getD_cons_zero, List.getD_cons_succ, Nat.succ_ne_self, reduceCtorEq, ne_eq, List.replicate_zero, List.append_nil, Int.reduceToNat, Nat.zero_lt_succ, Nat.reduceSub, Nat.one_ne_zero, Nat.zero_ne_one, this, Option.isSome_some, Bool.not_true]
            refine ⟨kv, line ++ l, v', _, _, _, _, ⟨l, rfl⟩, lf', hv, ?_, rfl⟩
            intro p hp
            by_cases e : p = k
            · subst e; exact hm2
            · exact ct p (by omega)
          · have := lf'.no _ hm2
            simp (disch := first | omega | (simp only [List.length_map, F_len, List.length_append, List.length_cons, List.length_nil] <;> omega)) only [↓vA, uA, Option.bind_some, Option.map_some, Option.bind_none, Option.map_none, List.length_cons, List.length_nil, List.length_map, List.length_append, List.set_cons_zero, List.set_cons_succ, List.set_nil, List.map_cons, List.map_nil, List.cons_append, List.nil_append, List.mem_cons, List.not_mem_nil, Nat.reduceLT, Nat.reduceLeDiff, Nat.reduceAdd, Nat.reduceEqDiff, Nat.zero_add, Nat.lt_add_one, not_false_eq_true, or_false, false_or, or_self, and_true, true_and, and_self, List.getD_cons_zero, List.getD_cons_succ, Nat.succ_ne_self, reduceCtorEq, ne_eq, List.replicate_zero, List.append_nil, Int.reduceToNat, Nat.zero_lt_succ, Nat.reduceSub, Nat.one_ne_zero, Nat.zero_ne_one, this, Option.isSome_none, Bool.not_false]
            refine ⟨_, line ++ l ++ [(W.to q k).1], up v' (W.to q k).1 (U.to (v q) k).1, _, _, _, _, ⟨l ++ [(W.to q k).1], by simp⟩, ⟨?_, ?_, ?_, ?_, ?_, ?_, ?_⟩, ?_, ?_, by simp only [List.map_append]; rfl⟩
            · refine List.nodup_append.mpr ⟨lf'.nd, by simp, fun x hx y hy => ?_⟩
              rw [List.mem_singleton.mp hy]
              exact fun e => hm2 (e ▸ hx)
            · intro h hh
              rw [look_put]
              by_cases eh : h = (W.to q k).1
              · subst eh
                rw [if_pos rfl, up_same]
                exact ⟨t1, t2, rfl⟩
              · have hh2 : h ∈ line ++ l := by
                  rcases List.mem_append.mp hh with hh | hh
                  · exact hh
                  · exact (eh (List.mem_singleton.mp hh)).elim
                rw [up_ne eh, if_neg (fun x => eh (by injection x with x; omega))]
                exact lf'.rg h hh2
            · intro h hh
              rw [look_put]
              have eh : h ≠ (W.to q k).1 := fun x => hh (by rw [x]; simp)
              rw [if_neg (fun x => eh (by injection x with x; omega))]
              exact lf'.no h fun x => hh (List.mem_append_left _ x)
            · rw [List.getElem?_append_left (by have := (List.getElem?_eq_some_iff.mp lf'.hd).1; exact this)]; exact lf'.hd
            · rw [up_ne ?_]
              · exact lf'.v0
              · intro x
                exact hm2 (by rw [← x]; exact List.mem_of_getElem? lf'.hd)
            · intro f hf h0 h hh
              by_cases eh : h = (W.to q k).1
              · subst eh
                rw [up_same]
                have := hf.to q r1 k hk
                rw [lf.fo f hf h0 q hm] at this
                rw [this]
              · rw [up_ne eh]
                refine lf'.fo f hf h0 h ?_
                rcases List.mem_append.mp hh with hh | hh
                · exact hh
                · exact (eh (List.mem_singleton.mp hh)).elim
            · have := @put_len _ _ kv (.inl ((W.to q k).1 : Int) : Key) (.int ((U.to (v q) k).1 : Nat))
              simp
              omega
            · intro h hh
              rw [up_ne]
              · exact hv h hh
              · intro x
                exact hm2 (by rw [← x]; exact List.mem_append_left _ hh)
            · intro p hp
              by_cases e : p = k
              · subst e; simp
              · exact List.mem_append_left _ (ct p (by omega))
        · rintro s ⟨kv, ln, v', x8, x9, x10, x11, ⟨l, rfl⟩, lf', hv, ct, rfl⟩
          have hl2 : line.length + l.length ≤ W.n := by simpa using nodup_len W.n (line ++ l) lf'.nd fun h hh => (lf'.rg h hh).1
          simp (disch := first | omega | (simp only [List.length_map, F_len, List.length_append, List.length_cons, List.length_nil] <;> omega)) only [↓vA, uA, Option.bind_some, Option.map_some, Option.bind_none, Option.map_none, List.length_cons, List.length_nil, List.length_map, List.length_append, List.set_cons_zero, List.set_cons_succ, List.set_nil, List.map_cons, List.map_nil, List.cons_append, List.nil_append, List.mem_cons, List.not_mem_nil, Nat.reduceLT, Nat.reduceLeDiff, Nat.reduceAdd, Nat.reduceEqDiff, Nat.zero_add, Nat.lt_add_one, not_false_eq_true, or_false, false_or, or_self, and_true, true_and, and_self, List.getD_cons_zero, List.getD_cons_succ, Nat.succ_ne_self, reduceCtorEq, ne_eq, List.replicate_zero, List.append_nil, Int.reduceToNat, Nat.zero_lt_succ, Nat.reduceSub, Nat.one_ne_zero, Nat.zero_ne_one]
          refine ⟨W.n - (at_ + 1), by omega, kv, line ++ l, v', at_ + 1, _, _, _, _, _, _, rfl, ?_, lf', ?_, rfl⟩
          · simp; omega
          · intro i h hi he p hp
            by_cases hia : i = at_
            · subst hia
              rw [List.getElem?_append_left (by assumption), hg] at he
              cases he
              exact ct p hp
            · rw [List.getElem?_append_left (by omega)] at he
              exact List.mem_append_left _ (cl i h (by omega) he p hp)
    · have e3 : at_ = line.length := by omega
      subst e3
      have cl2 : ∀ h, Reach W 0 h → h ∈ line := by
        intro h r
        induction r with
        | refl => exact List.mem_of_getElem? lf.hd
        | @step b p r hb hp ih =>
          obtain ⟨i, hi, e⟩ := List.getElem_of_mem ih
          exact cl i b hi (by rw [List.getElem?_eq_getElem hi, e]) p hp
      have all : ∀ h, h < W.n → h ∈ line := fun h hh => cl2 h (ok.conn h hh)
      simp (disch := first | omega | (simp only [List.length_map, F_len, List.length_append, List.length_cons, List.length_nil] <;> omega)) only [↓vA, uA, Option.bind_some, Option.map_some, Option.bind_none, Option.map_none, List.length_cons, List.length_nil, List.length_map, List.length_append, List.set_cons_zero, List.set_cons_succ, List.set_nil, List.map_cons, List.map_nil, List.cons_append, List.nil_append, List.mem_cons, List.not_mem_nil, Nat.reduceLT, Nat.reduceLeDiff, Nat.reduceAdd, Nat.reduceEqDiff, Nat.zero_add, Nat.lt_add_one, not_false_eq_true, or_false, false_or, or_self, and_true, true_and, and_self, List.getD_cons_zero, List.getD_cons_succ, Nat.succ_ne_self, reduceCtorEq, ne_eq, List.replicate_zero, List.append_nil, Int.reduceToNat, Nat.zero_lt_succ, Nat.reduceSub, Nat.one_ne_zero, Nat.zero_ne_one, ct_web, len_web]
      refine lc_map (fun h => .int ((v h : Nat) : Int)) ?_ (fun h hh => ?_) ?_
      · omega
      · have := (lf.rg h (all h hh)).2.2
        simp (disch := first | omega | (simp only [List.length_map, F_len, List.length_append, List.length_cons, List.length_nil] <;> omega)) only [↓vA, uA, Option.bind_some, Option.map_some, Option.bind_none, Option.map_none, List.length_cons, List.length_nil, List.length_map, List.length_append, List.set_cons_zero, List.set_cons_succ, List.set_nil, List.map_cons, List.map_nil, List.cons_append, List.nil_append, List.mem_cons, List.not_mem_nil, Nat.reduceLT, Nat.reduceLeDiff, Nat.reduceAdd, Nat.reduceEqDiff, Nat.zero_add, Nat.lt_add_one, not_false_eq_true, or_false, false_or, or_self, and_true, true_and, and_self, List.getD_cons_zero, List.getD_cons_succ, Nat.succ_ne_self, reduceCtorEq, ne_eq, List.replicate_zero, List.append_nil, Int.reduceToNat, Nat.zero_lt_succ, Nat.reduceSub, Nat.one_ne_zero, Nat.zero_ne_one, this]
      simp (disch := first | omega | (simp only [List.length_map, F_len, List.length_append, List.length_cons, List.length_nil] <;> omega)) only [↓vA, uA, Option.bind_some, Option.map_some, Option.bind_none, Option.map_none, List.length_cons, List.length_nil, List.length_map, List.length_append, List.set_cons_zero, List.set_cons_succ, List.set_nil, List.map_cons, List.map_nil, List.cons_append, List.nil_append, List.mem_cons, List.not_mem_nil, Nat.reduceLT, Nat.reduceLeDiff, Nat.reduceAdd, Nat.reduceEqDiff, Nat.zero_add, Nat.lt_add_one, not_false_eq_true, or_false, false_or, or_self, and_true, true_and, and_self, List.getD_cons_zero, List.getD_cons_succ, Nat.succ_ne_self, reduceCtorEq, ne_eq, List.replicate_zero, List.append_nil, Int.reduceToNat, Nat.zero_lt_succ, Nat.reduceSub, Nat.one_ne_zero, Nat.zero_ne_one]
      refine .inr ⟨v, rfl, fun h hh => (lf.rg h (all h hh)).2.1, lf.v0, fun f hf h0 h hh => lf.fo f hf h0 h (all h hh)⟩
  · refine ⟨kv0, [0], fun _ => b, 0, _, _, _, _, _, _, rfl, by simp, ⟨by simp, ?_, ?_, rfl, rfl, ?_, by simpa using l1⟩, fun i h hi => by omega, rfl⟩
    · intro h hh
      rw [List.mem_singleton.mp hh]
      exact ⟨ok.pos, hb, by rw [lk]; rfl⟩
    · intro h hh
      rw [lk, if_neg]
      intro x
      injection x with x
      exact hh (by simp; omega)
    · intro f _ h0 h hh
      rw [List.mem_singleton.mp hh]; exact h0
/-- hand 0 led to b -/
def From (W U : Web) (b : Nat) : Prop := ∃ f, Lead W U f ∧ f 0 = b
open Classical in
noncomputable def lf (W U : Web) (b : Nat) : Nat → Nat := if h : From W U b then choose h else fun _ => 0
theorem lf_lead {W U : Web} {b : Nat} (h : From W U b) : Lead W U (lf W U b) ∧ lf W U b 0 = b := by
  unfold lf
  rw [dif_pos h]
  exact Classical.choose_spec h
theorem rowL_ext {n : Nat} {f g : Nat → Nat} (h : ∀ k, k < n → f k = g k) : rowL n f = rowL n g := F_ext fun k hk => by rw [h k hk]
theorem rowL_inj {n : Nat} {f g : Nat → Nat} (h : rowL n f = rowL n g) : ∀ k, k < n → f k = g k := fun k hk => by
  have := (F_inj h).2 k hk
  injection this with this
  omega
theorem rowL_len {n : Nat} {f : Nat → Nat} : (rowL n f).length = n := F_len
/-- all leadings, by where hand 0 is led -/
noncomputable def begins (W U : Web) : List Nat := (List.range U.n).filter fun b => dc (From W U b)
noncomputable def leadsL (W U : Web) : List D := (begins W U).map fun b => .tup (rowL W.n (lf W U b))
theorem leadings_run {cal : Cal} (W U : Web) (st : List O) (ok : W.Ok) (hu : ∀ h, h < U.n → ∀ p, p < U.deg h → (U.to h p).1 < U.n) (hn : W.n ≤ 10000) (hU : U.n ≤ 10000)
    (hF : ∀ b, b < U.n → vCO (cal "led_from" [.val (webD W), .val (webD U), .val (.int (b : Nat))] st) fun r os st' => os = [] ∧ st' = st ∧
      ((r = .val .non ∧ ∀ f, Lead W U f → f 0 ≠ b) ∨ ∃ v, r = .val (.tup (rowL W.n v)) ∧ (∀ h, h < W.n → v h < U.n) ∧ v 0 = b ∧ ∀ f, Lead W U f → f 0 = b → ∀ h, h < W.n → f h = v h))
    (hI : ∀ v : Nat → Nat, (∀ h, h < W.n → v h < U.n) → cal "is_leading" [.val (webD W), .val (webD U), .val (.tup (rowL W.n v))] st = .ok (.val (.bl (dc (Lead W U v)))) [] st) :
    runFd cal f_leadings [.val (webD W), .val (webD U)] st = .ok (.new (.lst (leadsL W U))) [] st := by
  refine vCO_eq (v_wCO_run ⟨rfl, rfl, by decide⟩ ?_)
  show V (denBl cal [] c_leadings) _ ⟨[.val (webD W), .val (webD U), .no, .no, .no], st⟩
  unfold c_leadings
  simp (disch := first | omega | (simp only [List.length_map, F_len, List.length_append, List.length_cons, List.length_nil] <;> omega)) only [↓vA, uA, Option.bind_some, Option.map_some, Option.bind_none, Option.map_none, List.length_cons, List.length_nil, List.length_map, List.length_append, List.set_cons_zero, List.set_cons_succ, List.set_nil, List.map_cons, List.map_nil, List.cons_append, List.nil_append, List.mem_cons, List.not_mem_nil, Nat.reduceLT, Nat.reduceLeDiff, Nat.reduceAdd, Nat.reduceEqDiff, Nat.zero_add, Nat.lt_add_one, not_false_eq_true, or_false, false_or, or_self, and_true, true_and, and_self, List.getD_cons_zero, List.getD_cons_succ, Nat.succ_ne_self, reduceCtorEq, ne_eq, List.replicate_zero, List.append_nil, Int.reduceToNat, Nat.zero_lt_succ, Nat.reduceSub, Nat.one_ne_zero, Nat.zero_ne_one, f_leadings, ct_web, len_web]
  refine for_ix (fun k s => ∃ (x3 x4 : Sl), s = ⟨[.val (webD W), .val (webD U), .own (.lst (((List.range k).filter fun b => dc (From W U b)).map fun b => .tup (rowL W.n (lf W U b)))), x3, x4], st⟩) ?_ ?_ ?_
  · exact ⟨_, _, rfl⟩
  · rintro k hk s ⟨x3, x4, rfl⟩
    have sz : ((List.range k).filter fun b => dc (From W U b)).length ≤ k := Nat.le_trans (List.length_filter_le _ _) (by simp)
    simp (disch := first | omega | (simp only [List.length_map, F_len, List.length_append, List.length_cons, List.length_nil] <;> omega)) only [↓vA, uA, Option.bind_some, Option.map_some, Option.bind_none, Option.map_none, List.length_cons, List.length_nil, List.length_map, List.length_append, List.set_cons_zero, List.set_cons_succ, List.set_nil, List.map_cons, List.map_nil, List.cons_append, List.nil_append, List.mem_cons, List.not_mem_nil, Nat.reduceLT, Nat.reduceLeDiff, Nat.reduceAdd, Nat.reduceEqDiff, Nat.zero_add, Nat.lt_add_one, not_false_eq_true, or_false, false_or, or_self, and_true, true_and, and_self, List.getD_cons_zero, List.getD_cons_succ, Nat.succ_ne_self, reduceCtorEq, ne_eq, List.replicate_zero, List.append_nil, Int.reduceToNat, Nat.zero_lt_succ, Nat.reduceSub, Nat.one_ne_zero, Nat.zero_ne_one]
    refine v_wCO_mono (hF k hk) ?_
    rintro r os st' ⟨rfl, rfl, h⟩
    rcases h with ⟨rfl, h⟩ | ⟨v, rfl, h1, h2, h3⟩
    · have : dc (From W U k) = false := dc_not fun ⟨f, hf, h0⟩ => h f hf h0
      simp (disch := first | omega | (simp only [List.length_map, F_len, List.length_append, List.length_cons, List.length_nil] <;> omega)) only [↓vA, uA, Option.bind_some, Option.map_some, Option.bind_none, Option.map_none, List.length_cons, List.length_nil, List.length_map, List.length_append, List.set_cons_zero, List.set_cons_succ, List.set_nil, List.map_cons, List.map_nil, List.cons_append, List.nil_append, List.mem_cons, List.not_mem_nil, Nat.reduceLT, Nat.reduceLeDiff, Nat.reduceAdd, Nat.reduceEqDiff, Nat.zero_add, Nat.lt_add_one, not_false_eq_true, or_false, false_or, or_self, and_true, true_and, and_self, List.getD_cons_zero, List.getD_cons_succ, Nat.succ_ne_self, reduceCtorEq, ne_eq, List.replicate_zero, List.append_nil, Int.reduceToNat, Nat.zero_lt_succ, Nat.reduceSub, Nat.one_ne_zero, Nat.zero_ne_one, List.range_succ, List.filter_append, List.filter_cons, List.filter_nil, this, Bool.false_eq_true, if_false]
      exact ⟨_, _, rfl⟩
    · simp (disch := first | omega | (simp only [List.length_map, F_len, List.length_append, List.length_cons, List.length_nil] <;> omega)) only [↓vA, uA, Option.bind_some, Option.map_some, Option.bind_none, Option.map_none, List.length_cons, List.length_nil, List.length_map, List.length_append, List.set_cons_zero, List.set_cons_succ, List.set_nil, List.map_cons, List.map_nil, List.cons_append, List.nil_append, List.mem_cons, List.not_mem_nil, Nat.reduceLT, Nat.reduceLeDiff, Nat.reduceAdd, Nat.reduceEqDiff, Nat.zero_add, Nat.lt_add_one, not_false_eq_true, or_false, false_or, or_self, and_true, true_and, and_self, List.getD_cons_zero, List.getD_cons_succ, Nat.succ_ne_self, reduceCtorEq, ne_eq, List.replicate_zero, List.append_nil, Int.reduceToNat, Nat.zero_lt_succ, Nat.reduceSub, Nat.one_ne_zero, Nat.zero_ne_one, hI v h1]
      by_cases hL : Lead W U v
      · have hfr : From W U k := ⟨v, hL, h2⟩
        have e : rowL W.n (lf W U k) = rowL W.n v := rowL_ext fun h hh => h3 _ (lf_lead hfr).1 (lf_lead hfr).2 h hh
        have ek : dc (From W U k) = true := dc_iff.mpr hfr
        simp (disch := first | omega | (simp only [List.length_map, F_len, List.length_append, List.length_cons, List.length_nil] <;> omega)) only [↓vA, uA, Option.bind_some, Option.map_some, Option.bind_none, Option.map_none, List.length_cons, List.length_nil, List.length_map, List.length_append, List.set_cons_zero, List.set_cons_succ, List.set_nil, List.map_cons, List.map_nil, List.cons_append, List.nil_append, List.mem_cons, List.not_mem_nil, Nat.reduceLT, Nat.reduceLeDiff, Nat.reduceAdd, Nat.reduceEqDiff, Nat.zero_add, Nat.lt_add_one, not_false_eq_true, or_false, false_or, or_self, and_true, true_and, and_self, List.getD_cons_zero, List.getD_cons_succ, Nat.succ_ne_self, reduceCtorEq, ne_eq, List.replicate_zero, List.append_nil, Int.reduceToNat, Nat.zero_lt_succ, Nat.reduceSub, Nat.one_ne_zero, Nat.zero_ne_one, dc_iff.mpr hL, List.range_succ, List.filter_append, List.filter_cons, List.filter_nil, ek, if_true, List.map_append, e]
        exact ⟨_, _, rfl⟩
      · have : dc (From W U k) = false := dc_not fun ⟨f, hf, h0⟩ => hL (by
          have e := h3 f hf h0
          refine ⟨h1, fun h hh => by rw [← e h hh]; exact hf.mark h hh, fun h hh => by rw [← e h hh]; exact hf.deg h hh, fun h hh p hp => ?_⟩
          rw [← e h hh, ← e _ (ok.tie h hh p hp).1]; exact hf.to h hh p hp)
        simp (disch := first | omega | (simp only [List.length_map, F_len, List.length_append, List.length_cons, List.length_nil] <;> omega)) only [↓vA, uA, Option.bind_some, Option.map_some, Option.bind_none, Option.map_none, List.length_cons, List.length_nil, List.length_map, List.length_append, List.set_cons_zero, List.set_cons_succ, List.set_nil, List.map_cons, List.map_nil, List.cons_append, List.nil_append, List.mem_cons, List.not_mem_nil, Nat.reduceLT, Nat.reduceLeDiff, Nat.reduceAdd, Nat.reduceEqDiff, Nat.zero_add, Nat.lt_add_one, not_false_eq_true, or_false, false_or, or_self, and_true, true_and, and_self, List.getD_cons_zero, List.getD_cons_succ, Nat.succ_ne_self, reduceCtorEq, ne_eq, List.replicate_zero, List.append_nil, Int.reduceToNat, Nat.zero_lt_succ, Nat.reduceSub, Nat.one_ne_zero, Nat.zero_ne_one, dc_not hL, List.range_succ, List.filter_append, List.filter_cons, List.filter_nil, this, Bool.false_eq_true, if_false]
        exact ⟨_, _, rfl⟩
  · rintro s ⟨x3, x4, rfl⟩
    simp (disch := first | omega | (simp only [List.length_map, F_len, List.length_append, List.length_cons, List.length_nil] <;> omega)) only [↓vA, uA, Option.bind_some, Option.map_some, Option.bind_none, Option.map_none, List.length_cons, List.length_nil, List.length_map, List.length_append, List.set_cons_zero, List.set_cons_succ, List.set_nil, List.map_cons, List.map_nil, List.cons_append, List.nil_append, List.mem_cons, List.not_mem_nil, Nat.reduceLT, Nat.reduceLeDiff, Nat.reduceAdd, Nat.reduceEqDiff, Nat.zero_add, Nat.lt_add_one, not_false_eq_true, or_false, false_or, or_self, and_true, true_and, and_self, List.getD_cons_zero, List.getD_cons_succ, Nat.succ_ne_self, reduceCtorEq, ne_eq, List.replicate_zero, List.append_nil, Int.reduceToNat, Nat.zero_lt_succ, Nat.reduceSub, Nat.one_ne_zero, Nat.zero_ne_one]
    rfl
/-! ### the same, looked at otherwise -/
theorem Lis_leading_run (cal : Cal) (W U : Web) (f : Nat → Nat) (st : List O) (hpos : 0 < W.n) (hin : ∀ h, h < W.n → ∀ p, p < W.deg h → (W.to h p).1 < W.n) (hn : W.n ≤ 10000) (hd : ∀ h, h < W.n → W.deg h ≤ 10000) (hl : ∀ h, h < W.n → f h < U.n) :
    runFd cal f_Lis_leading [.val (webD W), .val (webD U), .val (.tup (rowL W.n f))] st = .ok (.val (.bl (dc (Lead W U f)))) [] st := by
  refine vCO_eq (v_wCO_run ⟨rfl, rfl, by decide⟩ ?_)
  show V (denBl cal [] c_Lis_leading) _ ⟨[.val (webD W), .val (webD U), .val (.tup (rowL W.n f)), .no, .no, .no, .no, .no], st⟩
  unfold c_Lis_leading
  simp (disch := first | omega | (simp only [List.length_map, F_len, List.length_append, List.length_cons, List.length_nil] <;> omega)) only [↓vA, uA, Option.bind_some, Option.map_some, Option.bind_none, Option.map_none, List.length_cons, List.length_nil, List.length_map, List.length_append, List.set_cons_zero, List.set_cons_succ, List.set_nil, List.map_cons, List.map_nil, List.cons_append, List.nil_append, List.mem_cons, List.not_mem_nil, Nat.reduceLT, Nat.reduceLeDiff, Nat.reduceAdd, Nat.reduceEqDiff, Nat.zero_add, Nat.lt_add_one, not_false_eq_true, or_false, false_or, or_self, and_true, true_and, and_self, List.getD_cons_zero, List.getD_cons_succ, Nat.succ_ne_self, reduceCtorEq, ne_eq, List.replicate_zero, List.append_nil, Int.reduceToNat, Nat.zero_lt_succ, Nat.reduceSub, Nat.one_ne_zero, Nat.zero_ne_one, f_Lis_leading, items_web]
  refine for_ix (fun k s => ∃ (x3 x4 x5 : Sl), (∀ h, h < k → U.mark (f h) = W.mark h ∧ U.deg (f h) = W.deg h ∧ ∀ p, p < W.deg h → U.to (f h) p = (f (W.to h p).1, (W.to h p).2)) ∧ s = ⟨[.val (webD W), .val (webD U), .val (.tup (rowL W.n f)), x3, x4, x5, .no, .no], st⟩) ?_ ?_ ?_
  · exact ⟨_, _, _, fun h hh => by omega, rfl⟩
  · rintro k hk s ⟨x3, x4, x5, hg, rfl⟩
    have h5 := hl k hk
    have dg := hd k hk
    simp (disch := first | omega | (simp only [List.length_map, F_len, List.length_append, List.length_cons, List.length_nil] <;> omega)) only [↓vA, uA, Option.bind_some, Option.map_some, Option.bind_none, Option.map_none, List.length_cons, List.length_nil, List.length_map, List.length_append, List.set_cons_zero, List.set_cons_succ, List.set_nil, List.map_cons, List.map_nil, List.cons_append, List.nil_append, List.mem_cons, List.not_mem_nil, Nat.reduceLT, Nat.reduceLeDiff, Nat.reduceAdd, Nat.reduceEqDiff, Nat.zero_add, Nat.lt_add_one, not_false_eq_true, or_false, false_or, or_self, and_true, true_and, and_self, List.getD_cons_zero, List.getD_cons_succ, Nat.succ_ne_self, reduceCtorEq, ne_eq, List.replicate_zero, List.append_nil, Int.reduceToNat, Nat.zero_lt_succ, Nat.reduceSub, Nat.one_ne_zero, Nat.zero_ne_one, items_hand, rowL, ct_web, idx_web, ct_hand, idx_hand0]
    refine v_wBo_orD (fun e => ?_) (fun e => ?_)
    · simp (disch := first | omega | (simp only [List.length_map, F_len, List.length_append, List.length_cons, List.length_nil] <;> omega)) only [↓vA, uA, Option.bind_some, Option.map_some, Option.bind_none, Option.map_none, List.length_cons, List.length_nil, List.length_map, List.length_append, List.set_cons_zero, List.set_cons_succ, List.set_nil, List.map_cons, List.map_nil, List.cons_append, List.nil_append, List.mem_cons, List.not_mem_nil, Nat.reduceLT, Nat.reduceLeDiff, Nat.reduceAdd, Nat.reduceEqDiff, Nat.zero_add, Nat.lt_add_one, not_false_eq_true, or_false, false_or, or_self, and_true, true_and, and_self, List.getD_cons_zero, List.getD_cons_succ, Nat.succ_ne_self, reduceCtorEq, ne_eq, List.replicate_zero, List.append_nil, Int.reduceToNat, Nat.zero_lt_succ, Nat.reduceSub, Nat.one_ne_zero, Nat.zero_ne_one]
      rw [dc_not fun x => e (x.mark k hk).symm]
    · simp (disch := first | omega | (simp only [List.length_map, F_len, List.length_append, List.length_cons, List.length_nil] <;> omega)) only [↓vA, uA, Option.bind_some, Option.map_some, Option.bind_none, Option.map_none, List.length_cons, List.length_nil, List.length_map, List.length_append, List.set_cons_zero, List.set_cons_succ, List.set_nil, List.map_cons, List.map_nil, List.cons_append, List.nil_append, List.mem_cons, List.not_mem_nil, Nat.reduceLT, Nat.reduceLeDiff, Nat.reduceAdd, Nat.reduceEqDiff, Nat.zero_add, Nat.lt_add_one, not_false_eq_true, or_false, false_or, or_self, and_true, true_and, and_self, List.getD_cons_zero, List.getD_cons_succ, Nat.succ_ne_self, reduceCtorEq, ne_eq, List.replicate_zero, List.append_nil, Int.reduceToNat, Nat.zero_lt_succ, Nat.reduceSub, Nat.one_ne_zero, Nat.zero_ne_one, ct_pegs, len_pegs, ct_web, idx_web, ct_hand, idx_hand1]
      refine v_wBr_dec (fun e2 => ?_) (fun e2 => ?_)
      · simp (disch := first | omega | (simp only [List.length_map, F_len, List.length_append, List.length_cons, List.length_nil] <;> omega)) only [↓vA, uA, Option.bind_some, Option.map_some, Option.bind_none, Option.map_none, List.length_cons, List.length_nil, List.length_map, List.length_append, List.set_cons_zero, List.set_cons_succ, List.set_nil, List.map_cons, List.map_nil, List.cons_append, List.nil_append, List.mem_cons, List.not_mem_nil, Nat.reduceLT, Nat.reduceLeDiff, Nat.reduceAdd, Nat.reduceEqDiff, Nat.zero_add, Nat.lt_add_one, not_false_eq_true, or_false, false_or, or_self, and_true, true_and, and_self, List.getD_cons_zero, List.getD_cons_succ, Nat.succ_ne_self, reduceCtorEq, ne_eq, List.replicate_zero, List.append_nil, Int.reduceToNat, Nat.zero_lt_succ, Nat.reduceSub, Nat.one_ne_zero, Nat.zero_ne_one]
        rw [dc_not fun x => e2 (x.deg k hk).symm]
      · have e2 : W.deg k = U.deg (f k) := by omega
        simp (disch := first | omega | (simp only [List.length_map, F_len, List.length_append, List.length_cons, List.length_nil] <;> omega)) only [↓vA, uA, Option.bind_some, Option.map_some, Option.bind_none, Option.map_none, List.length_cons, List.length_nil, List.length_map, List.length_append, List.set_cons_zero, List.set_cons_succ, List.set_nil, List.map_cons, List.map_nil, List.cons_append, List.nil_append, List.mem_cons, List.not_mem_nil, Nat.reduceLT, Nat.reduceLeDiff, Nat.reduceAdd, Nat.reduceEqDiff, Nat.zero_add, Nat.lt_add_one, not_false_eq_true, or_false, false_or, or_self, and_true, true_and, and_self, List.getD_cons_zero, List.getD_cons_succ, Nat.succ_ne_self, reduceCtorEq, ne_eq, List.replicate_zero, List.append_nil, Int.reduceToNat, Nat.zero_lt_succ, Nat.reduceSub, Nat.one_ne_zero, Nat.zero_ne_one, items_pegs]
        refine lc_map (fun p => pD (f (W.to k p).1, (W.to k p).2)) ?_ (fun p hp => ?_) ?_
        · omega
        · have := hin k hk p hp
          simp (disch := first | omega | (simp only [List.length_map, F_len, List.length_append, List.length_cons, List.length_nil] <;> omega)) only [↓vA, uA, Option.bind_some, Option.map_some, Option.bind_none, Option.map_none, List.length_cons, List.length_nil, List.length_map, List.length_append, List.set_cons_zero, List.set_cons_succ, List.set_nil, List.map_cons, List.map_nil, List.cons_append, List.nil_append, List.mem_cons, List.not_mem_nil, Nat.reduceLT, Nat.reduceLeDiff, Nat.reduceAdd, Nat.reduceEqDiff, Nat.zero_add, Nat.lt_add_one, not_false_eq_true, or_false, false_or, or_self, and_true, true_and, and_self, List.getD_cons_zero, List.getD_cons_succ, Nat.succ_ne_self, reduceCtorEq, ne_eq, List.replicate_zero, List.append_nil, Int.reduceToNat, Nat.zero_lt_succ, Nat.reduceSub, Nat.one_ne_zero, Nat.zero_ne_one, items_p, pD_mk]
        have bl : blt1 .list (.d (pegsD U (f k))) = some (.new (.lst (F (U.deg (f k)) fun p => pD (U.to (f k) p)))) := rfl
        have s1 : Std 2 (.lst (F (W.deg k) fun p => pD (f (W.to k p).1, (W.to k p).2))) := .lst (std_F fun _ _ => std_p)
        have s2 : Std 2 (.lst (F (U.deg (f k)) fun p => pD (U.to (f k) p))) := .lst (std_F fun _ _ => std_p)
        have cm := cmp_ne (s1.eqOk (by decide)) (s2.eqOk (by decide)) (c := .o (.lst (F (W.deg k) fun p => pD (f (W.to k p).1, (W.to k p).2)))) (c' := .o (.lst (F (U.deg (f k)) fun p => pD (U.to (f k) p)))) rfl rfl
        simp (disch := first | omega | (simp only [List.length_map, F_len, List.length_append, List.length_cons, List.length_nil] <;> omega)) only [↓vA, uA, Option.bind_some, Option.map_some, Option.bind_none, Option.map_none, List.length_cons, List.length_nil, List.length_map, List.length_append, List.set_cons_zero, List.set_cons_succ, List.set_nil, List.map_cons, List.map_nil, List.cons_append, List.nil_append, List.mem_cons, List.not_mem_nil, Nat.reduceLT, Nat.reduceLeDiff, Nat.reduceAdd, Nat.reduceEqDiff, Nat.zero_add, Nat.lt_add_one, not_false_eq_true, or_false, false_or, or_self, and_true, true_and, and_self, List.getD_cons_zero, List.getD_cons_succ, Nat.succ_ne_self, reduceCtorEq, ne_eq, List.replicate_zero, List.append_nil, Int.reduceToNat, Nat.zero_lt_succ, Nat.reduceSub, Nat.one_ne_zero, Nat.zero_ne_one, ct_web, idx_web, ct_hand, idx_hand1, ct_pegs, bl, cm]
        have iff := s1.eqb _ _ s2
        refine v_wBr_split (fun h => ?_) (fun h => ?_)
        · simp (disch := first | omega | (simp only [List.length_map, F_len, List.length_append, List.length_cons, List.length_nil] <;> omega)) only [↓vA, uA, Option.bind_some, Option.map_some, Option.bind_none, Option.map_none, List.length_cons, List.length_nil, List.length_map, List.length_append, List.set_cons_zero, List.set_cons_succ, List.set_nil, List.map_cons, List.map_nil, List.cons_append, List.nil_append, List.mem_cons, List.not_mem_nil, Nat.reduceLT, Nat.reduceLeDiff, Nat.reduceAdd, Nat.reduceEqDiff, Nat.zero_add, Nat.lt_add_one, not_false_eq_true, or_false, false_or, or_self, and_true, true_and, and_self, List.getD_cons_zero, List.getD_cons_succ, Nat.succ_ne_self, reduceCtorEq, ne_eq, List.replicate_zero, List.append_nil, Int.reduceToNat, Nat.zero_lt_succ, Nat.reduceSub, Nat.one_ne_zero, Nat.zero_ne_one]
          rw [dc_not fun x => ?_]
          have : (D.lst (F (W.deg k) fun p => pD (f (W.to k p).1, (W.to k p).2))).eqb (.lst (F (U.deg (f k)) fun p => pD (U.to (f k) p))) = true := by
            rw [iff, ← e2]
            congr 1
            exact F_ext fun p hp => by rw [x.to k hk p hp]
          rw [this] at h
          cases h
        · have he := iff.mp (by simpa using h)
          injection he with he
          have hp2 := (F_inj he).2
          simp (disch := first | omega | (simp only [List.length_map, F_len, List.length_append, List.length_cons, List.length_nil] <;> omega)) only [↓vA, uA, Option.bind_some, Option.map_some, Option.bind_none, Option.map_none, List.length_cons, List.length_nil, List.length_map, List.length_append, List.set_cons_zero, List.set_cons_succ, List.set_nil, List.map_cons, List.map_nil, List.cons_append, List.nil_append, List.mem_cons, List.not_mem_nil, Nat.reduceLT, Nat.reduceLeDiff, Nat.reduceAdd, Nat.reduceEqDiff, Nat.zero_add, Nat.lt_add_one, not_false_eq_true, or_false, false_or, or_self, and_true, true_and, and_self, List.getD_cons_zero, List.getD_cons_succ, Nat.succ_ne_self, reduceCtorEq, ne_eq, List.replicate_zero, List.append_nil, Int.reduceToNat, Nat.zero_lt_succ, Nat.reduceSub, Nat.one_ne_zero, Nat.zero_ne_one]
          refine ⟨_, _, _, fun h hh => ?_, rfl⟩
          by_cases eh : h = k
          · subst eh; exact ⟨by omega, e2.symm, fun p hp => (pD_inj (hp2 p hp)).symm⟩
          · exact hg h (by omega)
  · rintro s ⟨x3, x4, x5, hg, rfl⟩
    simp (disch := first | omega | (simp only [List.length_map, F_len, List.length_append, List.length_cons, List.length_nil] <;> omega)) only [↓vA, uA, Option.bind_some, Option.map_some, Option.bind_none, Option.map_none, List.length_cons, List.length_nil, List.length_map, List.length_append, List.set_cons_zero, List.set_cons_succ, List.set_nil, List.map_cons, List.map_nil, List.cons_append, List.nil_append, List.mem_cons, List.not_mem_nil, Nat.reduceLT, Nat.reduceLeDiff, Nat.reduceAdd, Nat.reduceEqDiff, Nat.zero_add, Nat.lt_add_one, not_false_eq_true, or_false, false_or, or_self, and_true, true_and, and_self, List.getD_cons_zero, List.getD_cons_succ, Nat.succ_ne_self, reduceCtorEq, ne_eq, List.replicate_zero, List.append_nil, Int.reduceToNat, Nat.zero_lt_succ, Nat.reduceSub, Nat.one_ne_zero, Nat.zero_ne_one, ct_web, len_web]
    have L : Lead W U f := ⟨hl, fun h hh => (hg h hh).1, fun h hh => (hg h hh).2.1, fun h hh => (hg h hh).2.2⟩
    rw [dc_iff.mpr L, decide_eq_true hpos]
end NH.PG

set_option Elab.async false
set_option linter.all false
set_option maxRecDepth 100000
set_option maxHeartbeats 1000000
set_option autoImplicit false
namespace NH.PG
open PySem L2 NH.DR
/-! ### plain laws of leadings -/
theorem lead_comp {W M L : Web} {f g : Nat → Nat} (hf : Lead W M f) (hg : Lead M L g) : Lead W L (fun h => g (f h)) :=
  ⟨fun h hh => hg.lt _ (hf.lt h hh), fun h hh => by rw [hg.mark _ (hf.lt h hh), hf.mark h hh], fun h hh => by rw [hg.deg _ (hf.lt h hh), hf.deg h hh], fun h hh p hp => by
    rw [hg.to _ (hf.lt h hh) p (by rw [hf.deg h hh]; exact hp), hf.to h hh p hp]⟩
theorem lead_id {W : Web} : Lead W W (fun h => h) := ⟨fun _ h => h, fun _ _ => rfl, fun _ _ => rfl, fun _ _ _ _ => rfl⟩
theorem lead_ext {W U : Web} {f g : Nat → Nat} (ok : W.Ok) (hf : Lead W U f) (e : ∀ h, h < W.n → f h = g h) : Lead W U g :=
  ⟨fun h hh => by rw [← e h hh]; exact hf.lt h hh, fun h hh => by rw [← e h hh]; exact hf.mark h hh, fun h hh => by rw [← e h hh]; exact hf.deg h hh, fun h hh p hp => by
    rw [← e h hh, ← e _ (ok.tie h hh p hp).1]; exact hf.to h hh p hp⟩
theorem mem_leads {W U : Web} {f : Nat → Nat} (ok : W.Ok) (hf : Lead W U f) : D.tup (rowL W.n f) ∈ leadsL W U := by
  have hfr : From W U (f 0) := ⟨f, hf, rfl⟩
  obtain ⟨l1, l2⟩ := lf_lead hfr
  refine List.mem_map.mpr ⟨f 0, List.mem_filter.mpr ⟨List.mem_range.mpr (hf.lt 0 ok.pos), dc_iff.mpr hfr⟩, ?_⟩
  rw [rowL_ext (lead_unique ok l1 hf l2)]
theorem leads_F {W U : Web} : ∃ (m : Nat) (g : Nat → D), leadsL W U = F m g ∧ m ≤ U.n ∧ ∀ k, k < m → ∃ f, Lead W U f ∧ g k = .tup (rowL W.n f) := by
  refine ⟨(leadsL W U).length, _, F_of (leadsL W U) .non, ?_, fun k hk => ?_⟩
  · unfold leadsL begins
    rw [List.length_map]
    exact Nat.le_trans (List.length_filter_le _ _) (by simp)
  · have hm : (leadsL W U).getD k .non ∈ leadsL W U := getD_mem hk
    obtain ⟨b, hb, e⟩ := List.mem_map.mp hm
    have := (List.mem_filter.mp hb).2
    exact ⟨lf W U b, (lf_lead (dc_iff.mp this)).1, e.symm⟩
theorem std_row {n : Nat} {f : Nat → Nat} : Std 1 (.tup (rowL n f)) := .tup (std_F fun _ _ => .int)
theorem std_leads {W U : Web} : Std 2 (.lst (leadsL W U)) := .lst fun x hx => by
  obtain ⟨b, _, rfl⟩ := List.mem_map.mp hx
  exact std_row
/-- x in list -/
theorem in_std {d : D} {xs : List D} {n : Nat} (hd : Std n d) (hx : Std n (.lst xs)) (hn : n ≤ 64) (c : Ct) (hc : ctD c = some d) : inCt c (.o (.lst xs)) = some (dc (d ∈ xs)) := by
  have h : inCt c (.o (.lst xs)) = match ctD c with
    | some d => if d.eqOk && (D.lst xs).eqOk then some (xs.any fun z => z.eqb d) else none
    | none => none := rfl
  rw [h, hc]
  simp only [hd.eqOk hn, hx.eqOk hn, Bool.and_true, if_true, Option.some.injEq]
  cases hx with
  | @lst m _ hx =>
    by_cases hm : d ∈ xs
    · rw [dc_iff.mpr hm, List.any_eq_true]
      exact ⟨d, hm, (hd.eqb _ _ hd).mpr rfl⟩
    · rw [dc_not hm]
      cases e : xs.any fun z => z.eqb d with
      | false => rfl
      | true =>
        obtain ⟨z, hz, e2⟩ := List.any_eq_true.mp e
        exact (hm (by rw [← ((hx z hz).eqb _ _ hd).mp e2]; exact hz)).elim
theorem cmp_eqS {d e : D} {n : Nat} (hd : Std n d) (he : Std n e) (hn : n ≤ 64) {c c' : Ct} (hc : ctD c = some d) (hc' : ctD c' = some e) : cmpCt .eq c c' = some (dc (d = e)) := by
  rw [cmp_eq (hd.eqOk hn) (he.eqOk hn) hc hc']
  by_cases h : d = e
  · rw [dc_iff.mpr h, (hd.eqb _ _ he).mpr h]
  · rw [dc_not h]
    cases x : d.eqb e with
    | false => rfl
    | true => exact (h ((hd.eqb _ _ he).mp x)).elim
theorem cmp_neS {d e : D} {n : Nat} (hd : Std n d) (he : Std n e) (hn : n ≤ 64) {c c' : Ct} (hc : ctD c = some d) (hc' : ctD c' = some e) : cmpCt .ne c c' = some (!dc (d = e)) := by
  have := cmp_eqS hd he hn hc hc'
  rw [cmp_eq (hd.eqOk hn) (he.eqOk hn) hc hc'] at this
  rw [cmp_ne (hd.eqOk hn) (he.eqOk hn) hc hc', Option.some.inj this]
/-! ### as many hands are led to each -/
theorem sub_len {xs ys : List Nat} (nd : xs.Nodup) (h : ∀ x ∈ xs, x ∈ ys) : xs.length ≤ ys.length := by
  induction xs generalizing ys with
  | nil => simp
  | cons x xs ih =>
    have hx := h x (by simp)
    have nd' := List.nodup_cons.mp nd
    have := ih (ys := ys.erase x) nd'.2 fun y hy => by
      have hne : y ≠ x := fun e => nd'.1 (e ▸ hy)
      exact (List.mem_erase_of_ne hne).mpr (h y (by simp [hy]))
    rw [List.length_erase_of_mem hx] at this
    have := List.length_pos_of_mem hx
    simp only [List.length_cons]
    omega
def fib (n : Nat) (f : Nat → Nat) (g : Nat) : List Nat := (List.range n).filter fun h => decide (f h = g)
theorem mem_fib {n : Nat} {f : Nat → Nat} {g h : Nat} : h ∈ fib n f g ↔ h < n ∧ f h = g := by
  unfold fib
  rw [List.mem_filter, List.mem_range, decide_eq_true_iff]
theorem fib_le {W L : Web} {f : Nat → Nat} (okW : W.Ok) (okL : L.Ok) (hf : Lead W L f) {g p : Nat} (hg : g < L.n) (hp : p < L.deg g) : (fib W.n f g).length ≤ (fib W.n f (L.to g p).1).length := by
  have nd : (fib W.n f g).Nodup := List.Pairwise.filter _ List.nodup_range
  have key : ((fib W.n f g).map fun h => (W.to h p).1).Nodup := by
    rw [List.Nodup, List.pairwise_map]
    refine List.Pairwise.imp_of_mem (fun {a b} ha hb hne e => hne ?_) nd
    obtain ⟨a1, a2⟩ := mem_fib.mp ha
    obtain ⟨b1, b2⟩ := mem_fib.mp hb
    have da : p < W.deg a := by rw [← hf.deg a a1, a2]; exact hp
    have db : p < W.deg b := by rw [← hf.deg b b1, b2]; exact hp
    have ta := hf.to a a1 p da
    have tb := hf.to b b1 p db
    rw [a2] at ta
    rw [b2, ta] at tb
    have e2 : (W.to a p).2 = (W.to b p).2 := (Prod.ext_iff.mp tb).2
    have ra := (okW.tie a a1 p da).2.2
    have rb := (okW.tie b b1 p db).2.2
    rw [e, e2, rb] at ra
    exact ((Prod.ext_iff.mp ra).1).symm
  have := sub_len key (ys := fib W.n f (L.to g p).1) fun x hx => by
    obtain ⟨h, hh, rfl⟩ := List.mem_map.mp hx
    obtain ⟨a1, a2⟩ := mem_fib.mp hh
    have da : p < W.deg h := by rw [← hf.deg h a1, a2]; exact hp
    have ta := hf.to h a1 p da
    rw [a2] at ta
    exact mem_fib.mpr ⟨(okW.tie h a1 p da).1, by rw [ta]⟩
  simpa using this
theorem fib_eq {W L : Web} {f : Nat → Nat} (okW : W.Ok) (okL : L.Ok) (hf : Lead W L f) : ∀ g, g < L.n → (fib W.n f g).length = (fib W.n f 0).length := by
  have : ∀ b, Reach L 0 b → b < L.n ∧ (fib W.n f b).length = (fib W.n f 0).length := by
    intro b r
    induction r with
    | refl => exact ⟨okL.pos, rfl⟩
    | @step b p r hb hp ih =>
      obtain ⟨t1, t2, t3⟩ := okL.tie b hb p hp
      have h1 := fib_le okW okL hf hb hp
      have h2 := fib_le okW okL hf t1 t2
      rw [t3] at h2
      exact ⟨t1, by have := ih.2; simp only at h2; omega⟩
  exact fun g hg => (this g (okL.conn g hg)).2
theorem fib_sum {m : Nat} {f : Nat → Nat} : ∀ n, (∀ h, h < n → f h < m) → ((List.range m).map fun g => (fib n f g).length).sum = n
  | 0, _ => by
    have : ((List.range m).map fun g => (fib 0 f g).length) = (List.range m).map fun _ => 0 := rfl
    rw [this]
    induction m with
    | zero => rfl
    | succ m ih => rw [List.range_succ, List.map_append, List.sum_append, ih (fun h hh => by omega) rfl]; rfl
  | n + 1, h => by
    have ih := fib_sum n fun k hk => h k (by omega)
    have step : ∀ g, (fib (n + 1) f g).length = (fib n f g).length + if f n = g then 1 else 0 := by
      intro g
      unfold fib
      rw [List.range_succ, List.filter_append, List.length_append]
      by_cases e : f n = g <;> simp [e]
    have one : ∀ m', ((List.range m').map fun g => if f n = g then 1 else 0).sum = if f n < m' then 1 else 0 := by
      intro m'
      induction m' with
      | zero => rfl
      | succ k ihk =>
        rw [List.range_succ, List.map_append, List.sum_append, ihk]
        simp only [List.map_cons, List.map_nil, List.sum_cons, List.sum_nil]
        by_cases e1 : f n < k
        · rw [if_pos e1, if_neg (by omega), if_pos (by omega)]; rfl
        · by_cases e2 : f n = k
          · rw [if_neg e1, if_pos e2, if_pos (by omega)]; rfl
          · rw [if_neg e1, if_neg e2, if_neg (by omega)]; rfl
    have add : ∀ (l : List Nat) (a b : Nat → Nat), (l.map fun g => a g + b g).sum = (l.map a).sum + (l.map b).sum := by
      intro l a b
      induction l with
      | nil => rfl
      | cons x l ihl => simp only [List.map_cons, List.sum_cons, ihl]; omega
    have e : (List.range m).map (fun g => (fib (n + 1) f g).length) = (List.range m).map fun g => (fib n f g).length + if f n = g then 1 else 0 := List.map_congr_left fun g _ => step g
    rw [e, add, ih, one, if_pos (h n (by omega))]
theorem fib_mul {W L : Web} {f : Nat → Nat} (okW : W.Ok) (okL : L.Ok) (hf : Lead W L f) : (fib W.n f 0).length * L.n = W.n := by
  have h1 := fib_sum (m := L.n) W.n hf.lt
  have e : (List.range L.n).map (fun g => (fib W.n f g).length) = (List.range L.n).map fun _ => (fib W.n f 0).length := List.map_congr_left fun g hg => fib_eq okW okL hf g (List.mem_range.mp hg)
  rw [e] at h1
  have : ∀ (m c : Nat), ((List.range m).map fun _ => c).sum = c * m := by
    intro m c
    induction m with
    | zero => rfl
    | succ m ih => rw [List.range_succ, List.map_append, List.sum_append, ih]; simp [Nat.mul_succ]
  rw [this] at h1
  exact h1
end NH.PG

set_option Elab.async false
set_option linter.all false
set_option maxRecDepth 100000
set_option maxHeartbeats 1000000
set_option autoImplicit false
namespace NH.K08
open PySem L2
def N_is_leading : List Str := ["web", "other", "row", "h", "mark", "pegs", "g", "q"]
def c_is_leading : C := 
  (.cons (.ite (.boo false (.cons (.cmp .ne (.blt .len (.cons (.var 2) .nil)) (.blt .len (.cons (.var 0) .nil))) (.cons (.not (.blt .all (.cons (.lc [6] (.tn 6) (.iseq (.var 2)) .no (.cmp2 .le .lt (.int 0) (.var 6) (.blt .len (.cons (.var 1) .nil)))) .nil))) .nil))) (.cons (.ret (.bl false)) .nil) .nil)
  (.cons (.fr (.tt (.cons (.tn 3) (.cons (.tt (.cons (.tn 4) (.cons (.tn 5) .nil))) .nil))) (.ienum (.var 0)) (.cons (.ite (.cmp .ne (.idx (.var 1) (.idx (.var 2) (.var 3))) (.tup (.cons (.var 4) (.cons (.blt .tuple (.cons (.lc [6, 7] (.tt (.cons (.tn 6) (.cons (.tn 7) .nil))) (.iseq (.var 5)) .no (.tup (.cons (.idx (.var 2) (.var 6)) (.cons (.var 7) .nil)))) .nil)) .nil)))) (.cons (.ret (.bl false)) .nil) .nil) .nil))
  (.cons (.ret (.bl true)) .nil)))
def f_is_leading : Fd := ⟨3, [], 8, c_is_leading⟩
def N_led_from : List Str := ["web", "other", "begin", "found", "line", "at", "h", "pegs", "g", "q", "there", "peg"]
def c_led_from : C := 
  (.cons (.asg (.tw 3) (.disp false (.cons (.int 0) (.cons (.var 2) .nil)) .nil))
  (.cons (.asg (.tw 4) (.lst (.cons (.int 0) .nil)))
  (.cons (.asg (.tn 5) (.int 0))
  (.cons (.whl 100000 (.cmp .lt (.var 5) (.blt .len (.cons (.var 4) .nil))) (.cons (.asg (.tn 6) (.idx (.var 4) (.var 5))) (.cons (.asg (.tn 5) (.bin .add (.var 5) (.int 1))) (.cons (.asg (.tn 7) (.idx (.idx (.var 1) (.idx (.var 3) (.var 6))) (.int 1))) (.cons (.ite (.cmp .ne (.blt .len (.cons (.var 7) .nil)) (.blt .len (.cons (.idx (.idx (.var 0) (.var 6)) (.int 1)) .nil))) (.cons (.ret .non) .nil) .nil) (.cons (.fr (.tt (.cons (.tt (.cons (.tn 8) (.cons (.tn 9) .nil))) (.cons (.tt (.cons (.tn 10) (.cons (.tn 11) .nil))) .nil))) (.izip (.idx (.idx (.var 0) (.var 6)) (.int 1)) (.var 7)) (.cons (.ite (.cmp .notin (.var 8) (.var 3)) (.cons (.asg (.ti (.var 3) (.var 8)) (.var 10)) (.cons (.ex (.mth .append (.var 4) (.cons (.var 8) .nil))) .nil)) .nil) .nil)) .nil))))))
  (.cons (.ret (.blt .tuple (.cons (.lc [6] (.tn 6) (.irng (.cons (.blt .len (.cons (.var 0) .nil)) .nil)) .no (.idx (.var 3) (.var 6))) .nil))) .nil)))))
def f_led_from : Fd := ⟨3, [], 12, c_led_from⟩
def N_leadings : List Str := ["web", "other", "some", "begin", "row"]
def c_leadings : C := 
  (.cons (.asg (.tw 2) (.lst .nil))
  (.cons (.fr (.tn 3) (.irng (.cons (.blt .len (.cons (.var 1) .nil)) .nil)) (.cons (.asg (.tn 4) (.call "led_from" (.cons (.var 0) (.cons (.var 1) (.cons (.var 3) .nil))))) (.cons (.ite (.boo true (.cons (.cmp .notn (.var 4) .non) (.cons (.call "is_leading" (.cons (.var 0) (.cons (.var 1) (.cons (.var 4) .nil)))) .nil))) (.cons (.ex (.mth .append (.var 2) (.cons (.var 4) .nil))) .nil) .nil) .nil)))
  (.cons (.ret (.var 2)) .nil)))
def f_leadings : Fd := ⟨2, [], 5, c_leadings⟩
def N_followed : List Str := ["first", "second", "h"]
def c_followed : C := 
  (.cons (.ret (.blt .tuple (.cons (.lc [2] (.tn 2) (.iseq (.var 0)) .no (.idx (.var 1) (.var 2))) .nil))) .nil)
def f_followed : Fd := ⟨2, [], 3, c_followed⟩
def N_Lbox : List Str := ["_law_script", "_law_k", "_law_cell", "_law_seed"]
def c_Lbox : C := 
  (.cons (.asg (.tn 2) (.bin .mod (.bin .pow (.bin .add (.bin .mul (.int 7919) (.var 1)) (.int 11)) (.int 5)) (.int 2147483647)))
  (.cons (.ite (.cmp .lt (.var 1) (.blt .len (.cons (.var 0) .nil))) (.cons (.asg (.tn 2) (.idx (.var 0) (.var 1))) .nil) (.cons (.ite (.cmp .gt (.blt .len (.cons (.var 0) .nil)) (.int 0)) (.cons (.asg (.tn 2) (.bin .add (.var 2) (.bin .mul (.bin .mod (.idx (.var 0) (.bin .mod (.var 1) (.blt .len (.cons (.var 0) .nil)))) (.int 2147483629)) (.int 69623)))) .nil) .nil) .nil))
  (.cons (.asg (.tn 3) (.bin .add (.bin .mod (.bin .pow (.bin .add (.bin .add (.bin .mod (.var 2) (.int 2147483629)) (.bin .mul (.int 104729) (.var 1))) (.int 12)) (.int 5)) (.int 2147483647)) (.int 1)))
  (.cons (.ret (.lst (.cons (.idx (.lst (.cons (.int 0) (.cons (.var 2) .nil))) (.blt .int (.cons (.cmp .ge (.var 2) (.bin .pow (.int 10) (.int 18))) .nil))) (.cons (.var 3) .nil)))) .nil))))
def f_Lbox : Fd := ⟨2, [], 4, c_Lbox⟩
def N_Ltake : List Str := ["_law_box_here", "_law_wide", "_law_one", "_law_digit"]
def c_Ltake : C := 
  (.cons (.ite (.cmp .gt (.idx (.var 0) (.int 0)) (.int 0)) (.cons (.asg (.tn 3) (.bin .mod (.idx (.var 0) (.int 0)) (.var 1))) (.cons (.asg (.ti (.var 0) (.int 0)) (.bin .fdiv (.idx (.var 0) (.int 0)) (.var 1))) (.cons (.ret (.var 3)) .nil))) .nil)
  (.cons (.asg (.tn 2) (.bin .mod (.bin .mul (.idx (.var 0) (.int 1)) (.int 69623)) (.int 2147483647)))
  (.cons (.asg (.ti (.var 0) (.int 1)) (.bin .add (.bin .mod (.bin .add (.bin .mul (.var 2) (.int 48271)) (.int 30103)) (.int 2147483629)) (.int 1)))
  (.cons (.ret (.bin .mod (.bin .fdiv (.bin .add (.bin .mul (.var 2) (.int 2147483647)) (.idx (.var 0) (.int 1))) (.int 8191)) (.var 1))) .nil))))
def f_Ltake : Fd := ⟨2, [0], 4, c_Ltake⟩
def N_Lalike : List Str := ["_law_found", "_law_due", "_law_one", "_law_other"]
def c_Lalike : C := 
  (.cons (.ite (.blt .islt (.cons (.var 1) .nil)) (.cons (.ite (.boo false (.cons (.cmp .ne (.blt .istuple (.cons (.var 0) .nil)) (.blt .istuple (.cons (.var 1) .nil))) (.cons (.cmp .ne (.blt .islist (.cons (.var 0) .nil)) (.blt .islist (.cons (.var 1) .nil))) .nil))) (.cons (.ret (.bl false)) .nil) .nil) (.cons (.ret (.boo true (.cons (.cmp .eq (.blt .len (.cons (.var 0) .nil)) (.blt .len (.cons (.var 1) .nil))) (.cons (.blt .all (.cons (.lc [2, 3] (.tt (.cons (.tn 2) (.cons (.tn 3) .nil))) (.izip (.var 0) (.var 1)) .no (.call "_law_alike" (.cons (.var 2) (.cons (.var 3) .nil)))) .nil)) .nil)))) .nil)) .nil)
  (.cons (.ret (.boo true (.cons (.cmp .eq (.blt .isbool (.cons (.var 0) .nil)) (.blt .isbool (.cons (.var 1) .nil))) (.cons (.cmp .eq (.var 0) (.var 1)) .nil)))) .nil))
def f_Lalike : Fd := ⟨2, [], 4, c_Lalike⟩
def N_Lshuffled : List Str := ["_law_box_here", "_law_many", "_law_left", "_law_k"]
def c_Lshuffled : C := 
  (.cons (.asg (.tw 2) (.blt .lrange (.cons (.var 1) .nil)))
  (.cons (.ret (.lc [3] (.tn 3) (.irng (.cons (.var 1) .nil)) .no (.mth .pop1 (.var 2) (.cons (.call "_law_take" (.cons (.mv 0) (.cons (.bin .sub (.var 1) (.var 3)) .nil))) .nil)))) .nil))
def f_Lshuffled : Fd := ⟨2, [0], 4, c_Lshuffled⟩
def N_Lties : List Str := ["_law_box_here", "_law_many", "_law_room", "_law_count", "_law_ties_here", "_law_h", "_law_k", "_law_some", "_law_g", "_law_form"]
def c_Lties : C := 
  (.cons (.asg (.tw 3) (.bin .mul (.lst (.cons (.int 0) .nil)) (.var 1)))
  (.cons (.asg (.tw 4) (.lst .nil))
  (.cons (.fr (.tn 5) (.irng (.cons (.int 1) (.cons (.var 1) .nil))) (.cons (.asg (.tn 7) (.lc [8] (.tn 8) (.irng (.cons (.var 5) .nil)) (.cmp .lt (.idx (.var 3) (.var 8)) (.var 2)) (.var 8))) (.cons (.asg (.tn 8) (.idx (.var 7) (.call "_law_take" (.cons (.mv 0) (.cons (.blt .len (.cons (.var 7) .nil)) .nil))))) (.cons (.ex (.mth .append (.var 4) (.cons (.tup (.cons (.tup (.cons (.var 5) (.cons (.int 0) .nil))) (.cons (.tup (.cons (.var 8) (.cons (.idx (.var 3) (.var 8)) .nil))) .nil))) .nil))) (.cons (.asg (.tt (.cons (.ti (.var 3) (.var 5)) (.cons (.ti (.var 3) (.var 8)) .nil))) (.tup (.cons (.int 1) (.cons (.bin .add (.idx (.var 3) (.var 8)) (.int 1)) .nil)))) .nil)))))
  (.cons (.fr (.tn 6) (.irng (.cons (.call "_law_take" (.cons (.mv 0) (.cons (.int 4) .nil))) .nil)) (.cons (.asg (.tn 7) (.lc [8] (.tn 8) (.irng (.cons (.var 1) .nil)) (.cmp .lt (.idx (.var 3) (.var 8)) (.var 2)) (.var 8))) (.cons (.ite (.cmp .gt (.blt .len (.cons (.var 7) .nil)) (.int 0)) (.cons (.asg (.tn 9) (.call "_law_take" (.cons (.mv 0) (.cons (.int 3) .nil)))) (.cons (.par (.cons (.tw 8) (.cons (.tw 5) .nil)) (.cons (.fz (.idx (.var 7) (.call "_law_take" (.cons (.mv 0) (.cons (.blt .len (.cons (.var 7) .nil)) .nil))))) (.cons (.fz (.idx (.var 7) (.call "_law_take" (.cons (.mv 0) (.cons (.blt .len (.cons (.var 7) .nil)) .nil))))) .nil))) (.cons (.ite (.boo false (.cons (.cmp .eq (.var 9) (.int 0)) (.cons (.boo true (.cons (.cmp .eq (.var 8) (.var 5)) (.cons (.cmp .eq (.bin .add (.idx (.var 3) (.var 8)) (.int 1)) (.var 2)) .nil))) .nil))) (.cons (.asg (.tn 5) (.var 8)) (.cons (.ex (.mth .append (.var 4) (.cons (.tup (.cons (.tup (.cons (.var 8) (.cons (.idx (.var 3) (.var 8)) .nil))) (.cons (.tup (.cons (.var 8) (.cons (.idx (.var 3) (.var 8)) .nil))) .nil))) .nil))) .nil)) (.cons (.ite (.cmp .eq (.var 8) (.var 5)) (.cons (.ex (.mth .append (.var 4) (.cons (.tup (.cons (.tup (.cons (.var 8) (.cons (.idx (.var 3) (.var 8)) .nil))) (.cons (.tup (.cons (.var 8) (.cons (.bin .add (.idx (.var 3) (.var 8)) (.int 1)) .nil))) .nil))) .nil))) (.cons (.asg (.ti (.var 3) (.var 8)) (.bin .add (.idx (.var 3) (.var 8)) (.int 1))) .nil)) (.cons (.ex (.mth .append (.var 4) (.cons (.tup (.cons (.tup (.cons (.var 8) (.cons (.idx (.var 3) (.var 8)) .nil))) (.cons (.tup (.cons (.var 5) (.cons (.idx (.var 3) (.var 5)) .nil))) .nil))) .nil))) (.cons (.asg (.ti (.var 3) (.var 5)) (.bin .add (.idx (.var 3) (.var 5)) (.int 1))) .nil))) .nil)) (.cons (.asg (.ti (.var 3) (.var 8)) (.bin .add (.idx (.var 3) (.var 8)) (.int 1))) .nil)))) .nil) .nil)))
  (.cons (.ret (.tup (.cons (.var 4) (.cons (.var 3) .nil)))) .nil)))))
def f_Lties : Fd := ⟨3, [0], 10, c_Lties⟩
def N_Lmarks : List Str := ["_law_box_here", "_law_many", "_law_form", "_law_two", "_law_k"]
def c_Lmarks : C := 
  (.cons (.asg (.tn 2) (.call "_law_take" (.cons (.mv 0) (.cons (.int 4) .nil))))
  (.cons (.asg (.tn 3) (.tup (.cons (.call "_law_take" (.cons (.mv 0) (.cons (.int 10) .nil))) (.cons (.call "_law_take" (.cons (.mv 0) (.cons (.int 10) .nil))) .nil))))
  (.cons (.ite (.cmp .lt (.var 2) (.int 2)) (.cons (.ret (.bin .mul (.lst (.cons (.idx (.var 3) (.int 0)) .nil)) (.var 1))) .nil) .nil)
  (.cons (.ret (.lc [4] (.tn 4) (.irng (.cons (.var 1) .nil)) .no (.idx (.lst (.cons (.idx (.var 3) (.call "_law_take" (.cons (.mv 0) (.cons (.int 2) .nil)))) (.cons (.call "_law_take" (.cons (.mv 0) (.cons (.int 10) .nil))) .nil))) (.bin .sub (.var 2) (.int 2))))) .nil))))
def f_Lmarks : Fd := ⟨2, [0], 5, c_Lmarks⟩
def N_Lplain_web : List Str := ["_law_box_here", "_law_most", "_law_room", "_law_many", "_law_marks_here", "_law_number", "_law_pegs", "_law_ties_here", "_law_count", "_law_one", "_law_h", "_law_s", "_law_g", "_law_t", "_law_mark", "_law_some"]
def c_Lplain_web : C := 
  (.cons (.asg (.tn 3) (.bin .add (.int 1) (.call "_law_take" (.cons (.mv 0) (.cons (.var 1) .nil)))))
  (.cons (.asg (.tn 4) (.call "_law_marks" (.cons (.mv 0) (.cons (.var 3) .nil))))
  (.cons (.asg (.tt (.cons (.tn 7) (.cons (.tn 8) .nil))) (.call "_law_ties" (.cons (.mv 0) (.cons (.var 3) (.cons (.var 2) .nil)))))
  (.cons (.asg (.tn 5) (.lc [9] (.tn 9) (.iseq (.var 8)) .no (.call "_law_shuffled" (.cons (.mv 0) (.cons (.var 9) .nil)))))
  (.cons (.asg (.tn 6) (.lc [9] (.tn 9) (.iseq (.var 8)) .no (.stt (.bin .mul (.lst (.cons (.tup (.cons (.int 0) (.cons (.int 0) .nil))) .nil)) (.var 9)))))
  (.cons (.fr (.tt (.cons (.tt (.cons (.tn 10) (.cons (.tn 11) .nil))) (.cons (.tt (.cons (.tn 12) (.cons (.tn 13) .nil))) .nil))) (.iseq (.var 7)) (.cons (.asg (.ti (.idx (.var 6) (.var 10)) (.idx (.idx (.var 5) (.var 10)) (.var 11))) (.tup (.cons (.var 12) (.cons (.idx (.idx (.var 5) (.var 12)) (.var 13)) .nil)))) (.cons (.asg (.ti (.idx (.var 6) (.var 12)) (.idx (.idx (.var 5) (.var 12)) (.var 13))) (.tup (.cons (.var 10) (.cons (.idx (.idx (.var 5) (.var 10)) (.var 11)) .nil)))) .nil)))
  (.cons (.ret (.blt .tuple (.cons (.lc [14, 15] (.tt (.cons (.tn 14) (.cons (.tn 15) .nil))) (.izip (.var 4) (.var 6)) .no (.tup (.cons (.var 14) (.cons (.blt .tuple (.cons (.var 15) .nil)) .nil)))) .nil))) .nil)))))))
def f_Lplain_web : Fd := ⟨3, [0], 16, c_Lplain_web⟩
def N_Lrenamed : List Str := ["_law_web_here", "_law_row", "_law_found", "_law_h", "_law_mark", "_law_pegs", "_law_g", "_law_q"]
def c_Lrenamed : C := 
  (.cons (.asg (.tw 2) (.bin .mul (.lst (.cons .non .nil)) (.blt .len (.cons (.var 0) .nil))))
  (.cons (.fr (.tt (.cons (.tn 3) (.cons (.tt (.cons (.tn 4) (.cons (.tn 5) .nil))) .nil))) (.ienum (.var 0)) (.cons (.asg (.ti (.var 2) (.idx (.var 1) (.var 3))) (.tup (.cons (.var 4) (.cons (.blt .tuple (.cons (.lc [6, 7] (.tt (.cons (.tn 6) (.cons (.tn 7) .nil))) (.iseq (.var 5)) .no (.tup (.cons (.idx (.var 1) (.var 6)) (.cons (.var 7) .nil)))) .nil)) .nil)))) .nil))
  (.cons (.ret (.blt .tuple (.cons (.var 2) .nil))) .nil)))
def f_Lrenamed : Fd := ⟨2, [], 8, c_Lrenamed⟩
def N_Lturnings : List Str := ["_law_box_here", "_law_web_here", "_law_sheets", "_law_found", "_law_h", "_law_mark", "_law_pegs", "_law_p", "_law_g", "_law_q", "_law_row", "_law_k", "_law_shift", "_law_s"]
def c_Lturnings : C := 
  (.cons (.asg (.tw 3) (.dnew true))
  (.cons (.fr (.tt (.cons (.tn 4) (.cons (.tt (.cons (.tn 5) (.cons (.tn 6) .nil))) .nil))) (.ienum (.var 1)) (.cons (.fr (.tt (.cons (.tn 7) (.cons (.tt (.cons (.tn 8) (.cons (.tn 9) .nil))) .nil))) (.ienum (.var 6)) (.cons (.ite (.cmp .eq (.tup (.cons (.var 8) (.cons (.var 9) .nil))) (.tup (.cons (.var 4) (.cons (.var 7) .nil)))) (.cons (.asg (.tw 10) (.blt .lrange (.cons (.var 2) .nil))) (.cons (.fr (.tn 11) (.irng (.cons (.bin .fdiv (.var 2) (.int 2)) .nil)) (.cons (.ite (.cmp .gt (.call "_law_take" (.cons (.mv 0) (.cons (.int 3) .nil))) (.int 0)) (.cons (.asg (.tt (.cons (.ti (.var 10) (.bin .mul (.int 2) (.var 11))) (.cons (.ti (.var 10) (.bin .add (.bin .mul (.int 2) (.var 11)) (.int 1))) .nil))) (.tup (.cons (.bin .add (.bin .mul (.int 2) (.var 11)) (.int 1)) (.cons (.bin .mul (.int 2) (.var 11)) .nil)))) .nil) .nil) .nil)) (.cons (.asg (.tn 12) (.call "_law_take" (.cons (.mv 0) (.cons (.var 2) .nil)))) (.cons (.asg (.ti (.var 3) (.tup (.cons (.var 4) (.cons (.var 7) .nil)))) (.lc [13] (.tn 13) (.irng (.cons (.var 2) .nil)) .no (.bin .mod (.bin .sub (.idx (.var 10) (.bin .mod (.bin .add (.var 13) (.var 12)) (.var 2))) (.var 12)) (.var 2)))) .nil)))) (.cons (.ite (.cmp .lt (.tup (.cons (.var 4) (.cons (.var 7) .nil))) (.tup (.cons (.var 8) (.cons (.var 9) .nil)))) (.cons (.asg (.tw 10) (.call "_law_shuffled" (.cons (.mv 0) (.cons (.var 2) .nil)))) (.cons (.asg (.ti (.var 3) (.tup (.cons (.var 4) (.cons (.var 7) .nil)))) (.var 10)) (.cons (.asg (.ti (.var 3) (.tup (.cons (.var 8) (.cons (.var 9) .nil)))) (.lc [13] (.tn 13) (.irng (.cons (.var 2) .nil)) .no (.mth .index (.var 10) (.cons (.var 13) .nil)))) .nil))) .nil) .nil)) .nil)) .nil))
  (.cons (.ret (.var 3)) .nil)))
def f_Lturnings : Fd := ⟨3, [0], 14, c_Lturnings⟩
def N_Lcover : List Str := ["_law_box_here", "_law_web_here", "_law_sheets", "_law_turnings_here", "_law_there", "_law_at", "_law_found", "_law_row", "_law_leading", "_law_h", "_law_s", "_law_pegs", "_law_k", "_law_p", "_law_g", "_law_q"]
def c_Lcover : C := 
  (.cons (.asg (.tw 3) (.call "_law_turnings" (.cons (.mv 0) (.cons (.var 1) (.cons (.var 2) .nil)))))
  (.cons (.asg (.tw 4) (.lst (.cons (.tup (.cons (.int 0) (.cons (.int 0) .nil))) .nil)))
  (.cons (.asg (.tn 5) (.int 0))
  (.cons (.whl 100000 (.cmp .lt (.var 5) (.blt .len (.cons (.var 4) .nil))) (.cons (.asg (.tt (.cons (.tn 9) (.cons (.tn 10) .nil))) (.idx (.var 4) (.var 5))) (.cons (.fr (.tt (.cons (.tn 13) (.cons (.tt (.cons (.tn 14) (.cons (.tn 15) .nil))) .nil))) (.ienum (.idx (.idx (.var 1) (.var 9)) (.int 1))) (.cons (.ite (.cmp .notin (.tup (.cons (.var 14) (.cons (.idx (.idx (.var 3) (.tup (.cons (.var 9) (.cons (.var 13) .nil)))) (.var 10)) .nil))) (.var 4)) (.cons (.ex (.mth .append (.var 4) (.cons (.tup (.cons (.var 14) (.cons (.idx (.idx (.var 3) (.tup (.cons (.var 9) (.cons (.var 13) .nil)))) (.var 10)) .nil))) .nil))) .nil) .nil) .nil)) (.cons (.asg (.tn 5) (.bin .add (.var 5) (.int 1))) .nil))))
  (.cons (.asg (.tw 6) (.lst .nil))
  (.cons (.fr (.tt (.cons (.tn 9) (.cons (.tn 10) .nil))) (.iseq (.var 4)) (.cons (.asg (.tn 11) (.lc [13, 14, 15] (.tt (.cons (.tn 13) (.cons (.tt (.cons (.tn 14) (.cons (.tn 15) .nil))) .nil))) (.ienum (.idx (.idx (.var 1) (.var 9)) (.int 1))) .no (.tup (.cons (.mth .index (.var 4) (.cons (.tup (.cons (.var 14) (.cons (.idx (.idx (.var 3) (.tup (.cons (.var 9) (.cons (.var 13) .nil)))) (.var 10)) .nil))) .nil)) (.cons (.var 15) .nil))))) (.cons (.ex (.mth .append (.var 6) (.cons (.tup (.cons (.idx (.idx (.var 1) (.var 9)) (.int 0)) (.cons (.blt .tuple (.cons (.var 11) .nil)) .nil))) .nil))) .nil)))
  (.cons (.asg (.tn 7) (.call "_law_shuffled" (.cons (.mv 0) (.cons (.blt .len (.cons (.var 4) .nil)) .nil))))
  (.cons (.asg (.tw 8) (.bin .mul (.lst (.cons (.int 0) .nil)) (.blt .len (.cons (.var 4) .nil))))
  (.cons (.fr (.tt (.cons (.tn 12) (.cons (.tt (.cons (.tn 9) (.cons (.tn 10) .nil))) .nil))) (.ienum (.var 4)) (.cons (.asg (.ti (.var 8) (.idx (.var 7) (.var 12))) (.var 9)) .nil))
  (.cons (.ret (.tup (.cons (.call "_law_renamed" (.cons (.blt .tuple (.cons (.var 6) .nil)) (.cons (.var 7) .nil))) (.cons (.blt .tuple (.cons (.var 8) .nil)) .nil)))) .nil))))))))))
def f_Lcover : Fd := ⟨3, [0], 16, c_Lcover⟩
def N_Lweb : List Str := ["_law_box_here", "_law_most", "_law_room", "_law_sheets", "_law_lesser"]
def c_Lweb : C := 
  (.cons (.ite (.boo false (.cons (.cmp .eq (.call "_law_take" (.cons (.mv 0) (.cons (.int 2) .nil))) (.int 0)) (.cons (.cmp .lt (.var 1) (.int 2)) .nil))) (.cons (.ret (.call "_law_plain_web" (.cons (.mv 0) (.cons (.var 1) (.cons (.var 2) .nil))))) .nil) .nil)
  (.cons (.asg (.tn 3) (.bin .add (.int 2) (.call "_law_take" (.cons (.mv 0) (.cons (.blt .min2 (.cons (.int 3) (.cons (.bin .sub (.var 1) (.int 1)) .nil))) .nil)))))
  (.cons (.asg (.tn 4) (.call "_law_plain_web" (.cons (.mv 0) (.cons (.blt .max2 (.cons (.int 1) (.cons (.bin .fdiv (.var 1) (.var 3)) .nil))) (.cons (.var 2) .nil)))))
  (.cons (.ret (.idx (.call "_law_cover" (.cons (.mv 0) (.cons (.var 4) (.cons (.var 3) .nil)))) (.int 0))) .nil))))
def f_Lweb : Fd := ⟨3, [0], 5, c_Lweb⟩
def N_Lthree : List Str := ["_law_box_here", "_law_last", "_law_sheets", "_law_more", "_law_middle", "_law_second", "_law_web_here", "_law_first"]
def c_Lthree : C := 
  (.cons (.par (.cons (.tw 2) (.cons (.tw 3) .nil)) (.cons (.fz (.bin .add (.int 1) (.call "_law_take" (.cons (.mv 0) (.cons (.int 3) .nil))))) (.cons (.fz (.bin .add (.int 1) (.call "_law_take" (.cons (.mv 0) (.cons (.int 3) .nil))))) .nil)))
  (.cons (.asg (.tn 1) (.call "_law_plain_web" (.cons (.mv 0) (.cons (.blt .max2 (.cons (.int 1) (.cons (.bin .fdiv (.int 8) (.bin .mul (.var 2) (.var 3))) .nil))) (.cons (.int 4) .nil)))))
  (.cons (.asg (.tt (.cons (.tn 4) (.cons (.tn 5) .nil))) (.call "_law_cover" (.cons (.mv 0) (.cons (.var 1) (.cons (.var 3) .nil)))))
  (.cons (.asg (.tt (.cons (.tn 6) (.cons (.tn 7) .nil))) (.call "_law_cover" (.cons (.mv 0) (.cons (.var 4) (.cons (.blt .min2 (.cons (.var 2) (.cons (.bin .fdiv (.int 8) (.blt .len (.cons (.var 4) .nil))) .nil))) .nil)))))
  (.cons (.ret (.tup (.cons (.var 6) (.cons (.var 4) (.cons (.var 1) (.cons (.var 7) (.cons (.var 5) .nil))))))) .nil)))))
def f_Lthree : Fd := ⟨1, [0], 8, c_Lthree⟩
def N_Lled_to_each : List Str := ["_law_row", "_law_many", "_law_counts", "_law_g"]
def c_Lled_to_each : C := 
  (.cons (.asg (.tn 2) (.lc [3] (.tn 3) (.irng (.cons (.var 1) .nil)) .no (.mth .count (.var 0) (.cons (.var 3) .nil))))
  (.cons (.ret (.bin .mul (.idx (.var 2) (.int 0)) (.blt .int (.cons (.cmp .eq (.blt .min1 (.cons (.var 2) .nil)) (.blt .max1 (.cons (.var 2) .nil))) .nil)))) .nil))
def f_Lled_to_each : Fd := ⟨2, [], 4, c_Lled_to_each⟩
def N_law : List Str := ["_law_script", "_law_k", "_law_both", "_law_some", "_law_one", "_law_web_here", "_law_middle", "_law_last", "_law_first", "_law_second", "_law_other", "_law_g"]
def c_law : C := 
  (.cons (.fr (.tn 1) (.irng (.cons (.bin .add (.int 1) (.blt .len (.cons (.slc (.var 0) .no (.int 4)) .nil))) .nil)) (.cons (.asg (.tt (.cons (.tn 5) (.cons (.tn 6) (.cons (.tn 7) (.cons (.tn 8) (.cons (.tn 9) .nil)))))) (.call "_law_three" (.cons (.mw (.call "_law_box" (.cons (.var 0) (.cons (.var 1) .nil)))) .nil))) (.cons (.asg (.tn 2) (.call "followed" (.cons (.var 8) (.cons (.var 9) .nil)))) (.cons (.ite (.boo false (.cons (.not (.call "_law_alike" (.cons (.var 2) (.cons (.blt .tuple (.cons (.lc [11] (.tn 11) (.iseq (.var 8)) .no (.idx (.var 9) (.var 11))) .nil)) .nil)))) (.cons (.cmp .notn (.call "is_leading" (.cons (.var 5) (.cons (.var 7) (.cons (.var 2) .nil)))) (.bl true)) .nil))) (.cons (.ret (.bl false)) .nil) .nil) (.cons (.ite (.boo false (.cons (.cmp .ne (.call "followed" (.cons (.blt .trange (.cons (.blt .len (.cons (.var 5) .nil)) .nil)) (.cons (.var 8) .nil))) (.var 8)) (.cons (.cmp .ne (.call "followed" (.cons (.var 8) (.cons (.blt .trange (.cons (.blt .len (.cons (.var 6) .nil)) .nil)) .nil))) (.var 8)) .nil))) (.cons (.ret (.bl false)) .nil) .nil) (.cons (.asg (.tn 3) (.call "leadings" (.cons (.var 5) (.cons (.var 7) .nil)))) (.cons (.fr (.tn 4) (.iseq (.call "leadings" (.cons (.var 5) (.cons (.var 6) .nil)))) (.cons (.fr (.tn 10) (.iseq (.call "leadings" (.cons (.var 6) (.cons (.var 7) .nil)))) (.cons (.ite (.cmp .notin (.call "followed" (.cons (.var 4) (.cons (.var 10) .nil))) (.var 3)) (.cons (.ret (.bl false)) .nil) .nil) .nil)) .nil)) (.cons (.ite (.boo false (.cons (.cmp .notin (.var 2) (.var 3)) (.cons (.cmp .ne (.call "followed" (.cons (.var 8) (.cons (.var 9) .nil))) (.var 2)) .nil))) (.cons (.ret (.bl false)) .nil) .nil) (.cons (.ite (.blt .any (.cons (.lc [4] (.tn 4) (.iseq (.var 3)) .no (.cmp .ne (.bin .mul (.call "_law_led_to_each" (.cons (.var 4) (.cons (.blt .len (.cons (.var 7) .nil)) .nil))) (.blt .len (.cons (.var 7) .nil))) (.blt .len (.cons (.var 5) .nil)))) .nil)) (.cons (.ret (.bl false)) .nil) .nil) .nil)))))))))
  (.cons (.ret (.bl true)) .nil))
def f_law : Fd := ⟨1, [], 12, c_law⟩
def tab : Tab := [("is_leading", f_is_leading), ("led_from", f_led_from), ("leadings", f_leadings), ("followed", f_followed), ("_law_box", f_Lbox), ("_law_take", f_Ltake), ("_law_alike", f_Lalike), ("_law_shuffled", f_Lshuffled), ("_law_ties", f_Lties), ("_law_marks", f_Lmarks), ("_law_plain_web", f_Lplain_web), ("_law_renamed", f_Lrenamed), ("_law_turnings", f_Lturnings), ("_law_cover", f_Lcover), ("_law_web", f_Lweb), ("_law_three", f_Lthree), ("_law_led_to_each", f_Lled_to_each)]

def top (i : Nat) : Stmt := PySem.Challenge.pw_namelesshall_k08_whole_one_leading_behin.main.body.getD i (.Pass ⟨0, 0, 0, 0⟩)
theorem sc_is_leading : FnScope N_is_leading ["web", "other", "row"] (defScope (top 1)) := ⟨rfl, rfl, rfl, by decide +kernel, rfl, by decide +kernel, by decide +kernel⟩
theorem ck_is_leading : chkBl (kxOf N_is_leading (defScope (top 1))) c_is_leading (defBody (top 1)) = true := by decide +kernel
theorem sc_led_from : FnScope N_led_from ["web", "other", "begin"] (defScope (top 2)) := ⟨rfl, rfl, rfl, by decide +kernel, rfl, by decide +kernel, by decide +kernel⟩
theorem ck_led_from : chkBl (kxOf N_led_from (defScope (top 2))) c_led_from (defBody (top 2)) = true := by decide +kernel
theorem sc_leadings : FnScope N_leadings ["web", "other"] (defScope (top 3)) := ⟨rfl, rfl, rfl, by decide +kernel, rfl, by decide +kernel, by decide +kernel⟩
theorem ck_leadings : chkBl (kxOf N_leadings (defScope (top 3))) c_leadings (defBody (top 3)) = true := by decide +kernel
theorem sc_followed : FnScope N_followed ["first", "second"] (defScope (top 4)) := ⟨rfl, rfl, rfl, by decide +kernel, rfl, by decide +kernel, by decide +kernel⟩
theorem ck_followed : chkBl (kxOf N_followed (defScope (top 4))) c_followed (defBody (top 4)) = true := by decide +kernel
theorem sc_Lbox : FnScope N_Lbox ["_law_script", "_law_k"] (defScope (top 6)) := ⟨rfl, rfl, rfl, by decide +kernel, rfl, by decide +kernel, by decide +kernel⟩
theorem ck_Lbox : chkBl (kxOf N_Lbox (defScope (top 6))) c_Lbox (defBody (top 6)) = true := by decide +kernel
theorem sc_Ltake : FnScope N_Ltake ["_law_box_here", "_law_wide"] (defScope (top 7)) := ⟨rfl, rfl, rfl, by decide +kernel, rfl, by decide +kernel, by decide +kernel⟩
theorem ck_Ltake : chkBl (kxOf N_Ltake (defScope (top 7))) c_Ltake (defBody (top 7)) = true := by decide +kernel
theorem sc_Lalike : FnScope N_Lalike ["_law_found", "_law_due"] (defScope (top 8)) := ⟨rfl, rfl, rfl, by decide +kernel, rfl, by decide +kernel, by decide +kernel⟩
theorem ck_Lalike : chkBl (kxOf N_Lalike (defScope (top 8))) c_Lalike (defBody (top 8)) = true := by decide +kernel
theorem sc_Lshuffled : FnScope N_Lshuffled ["_law_box_here", "_law_many"] (defScope (top 9)) := ⟨rfl, rfl, rfl, by decide +kernel, rfl, by decide +kernel, by decide +kernel⟩
theorem ck_Lshuffled : chkBl (kxOf N_Lshuffled (defScope (top 9))) c_Lshuffled (defBody (top 9)) = true := by decide +kernel
theorem sc_Lties : FnScope N_Lties ["_law_box_here", "_law_many", "_law_room"] (defScope (top 10)) := ⟨rfl, rfl, rfl, by decide +kernel, rfl, by decide +kernel, by decide +kernel⟩
theorem ck_Lties : chkBl (kxOf N_Lties (defScope (top 10))) c_Lties (defBody (top 10)) = true := by decide +kernel
theorem sc_Lmarks : FnScope N_Lmarks ["_law_box_here", "_law_many"] (defScope (top 11)) := ⟨rfl, rfl, rfl, by decide +kernel, rfl, by decide +kernel, by decide +kernel⟩
theorem ck_Lmarks : chkBl (kxOf N_Lmarks (defScope (top 11))) c_Lmarks (defBody (top 11)) = true := by decide +kernel
theorem sc_Lplain_web : FnScope N_Lplain_web ["_law_box_here", "_law_most", "_law_room"] (defScope (top 12)) := ⟨rfl, rfl, rfl, by decide +kernel, rfl, by decide +kernel, by decide +kernel⟩
theorem ck_Lplain_web : chkBl (kxOf N_Lplain_web (defScope (top 12))) c_Lplain_web (defBody (top 12)) = true := by decide +kernel
theorem sc_Lrenamed : FnScope N_Lrenamed ["_law_web_here", "_law_row"] (defScope (top 13)) := ⟨rfl, rfl, rfl, by decide +kernel, rfl, by decide +kernel, by decide +kernel⟩
theorem ck_Lrenamed : chkBl (kxOf N_Lrenamed (defScope (top 13))) c_Lrenamed (defBody (top 13)) = true := by decide +kernel
theorem sc_Lturnings : FnScope N_Lturnings ["_law_box_here", "_law_web_here", "_law_sheets"] (defScope (top 14)) := ⟨rfl, rfl, rfl, by decide +kernel, rfl, by decide +kernel, by decide +kernel⟩
theorem ck_Lturnings : chkBl (kxOf N_Lturnings (defScope (top 14))) c_Lturnings (defBody (top 14)) = true := by decide +kernel
theorem sc_Lcover : FnScope N_Lcover ["_law_box_here", "_law_web_here", "_law_sheets"] (defScope (top 15)) := ⟨rfl, rfl, rfl, by decide +kernel, rfl, by decide +kernel, by decide +kernel⟩
theorem ck_Lcover : chkBl (kxOf N_Lcover (defScope (top 15))) c_Lcover (defBody (top 15)) = true := by decide +kernel
theorem sc_Lweb : FnScope N_Lweb ["_law_box_here", "_law_most", "_law_room"] (defScope (top 16)) := ⟨rfl, rfl, rfl, by decide +kernel, rfl, by decide +kernel, by decide +kernel⟩
theorem ck_Lweb : chkBl (kxOf N_Lweb (defScope (top 16))) c_Lweb (defBody (top 16)) = true := by decide +kernel
theorem sc_Lthree : FnScope N_Lthree ["_law_box_here"] (defScope (top 17)) := ⟨rfl, rfl, rfl, by decide +kernel, rfl, by decide +kernel, by decide +kernel⟩
theorem ck_Lthree : chkBl (kxOf N_Lthree (defScope (top 17))) c_Lthree (defBody (top 17)) = true := by decide +kernel
theorem sc_Lled_to_each : FnScope N_Lled_to_each ["_law_row", "_law_many"] (defScope (top 18)) := ⟨rfl, rfl, rfl, by decide +kernel, rfl, by decide +kernel, by decide +kernel⟩
theorem ck_Lled_to_each : chkBl (kxOf N_Lled_to_each (defScope (top 18))) c_Lled_to_each (defBody (top 18)) = true := by decide +kernel
theorem sc_law : FnScope N_law ["_law_script"] (defScope (top 19)) := ⟨rfl, rfl, rfl, by decide +kernel, rfl, by decide +kernel, by decide +kernel⟩
theorem ck_law : chkBl (kxOf N_law (defScope (top 19))) c_law (defBody (top 19)) = true := by decide +kernel
end NH.K08

set_option Elab.async false
set_option linter.all false
set_option maxRecDepth 100000
set_option maxHeartbeats 1000000
set_option autoImplicit false
namespace NH.K08
open PySem L2 NH.DR NH.PG
theorem dtab : DrawTab tab := ⟨rfl, rfl, rfl, rfl, rfl, rfl, rfl, rfl, rfl⟩
theorem three_run {cal : Cal} (hT : Take cal) (hP : PlainWeb cal) (hC : Cover cal) (o : O) (st : List O) (ho : BoxOk o) :
    vCO (runFd cal f_Lthree [.own o] st) fun r os st' => ∃ (o' : O) (W M L : Web) (f g : Nat → Nat), os = [o'] ∧ W.Ok ∧ M.Ok ∧ L.Ok ∧ Lead W M f ∧ Lead M L g ∧ W.n ≤ 8 ∧ M.n ≤ 8 ∧ L.n ≤ 8 ∧ r = .val (.tup [webD W, webD M, webD L, .tup (rowL W.n f), .tup (rowL M.n g)]) := by
  refine v_wCO_run ⟨rfl, rfl, by decide⟩ ?_
  show V (denBl cal [0] c_Lthree) _ ⟨[.own o, .no, .no, .no, .no, .no, .no, .no], st⟩
  unfold c_Lthree
  simp (disch := first | omega | (simp only [List.length_map, F_len, List.length_append, List.length_cons, List.length_nil] <;> omega)) only [↓vA, uA, Option.bind_some, Option.map_some, Option.bind_none, Option.map_none, List.length_cons, List.length_nil, List.length_map, List.length_append, List.set_cons_zero, List.set_cons_succ, List.set_nil, List.map_cons, List.map_nil, List.cons_append, List.nil_append, List.mem_cons, List.not_mem_nil, Nat.reduceLT, Nat.reduceLeDiff, Nat.reduceAdd, Nat.reduceEqDiff, Nat.zero_add, Nat.lt_add_one, not_false_eq_true, or_false, false_or, or_self, and_true, true_and, and_self, List.getD_cons_zero, List.getD_cons_succ, Nat.succ_ne_self, reduceCtorEq, ne_eq, List.replicate_zero, List.append_nil, Int.reduceToNat, Nat.zero_lt_succ, Nat.reduceSub, Nat.one_ne_zero, Nat.zero_ne_one, f_Lthree]
  refine hT.useL ho (by omega) (by omega) fun a o1 ha hb1 => ?_
  simp (disch := first | omega | (simp only [List.length_map, F_len, List.length_append, List.length_cons, List.length_nil] <;> omega)) only [↓vA, uA, Option.bind_some, Option.map_some, Option.bind_none, Option.map_none, List.length_cons, List.length_nil, List.length_map, List.length_append, List.set_cons_zero, List.set_cons_succ, List.set_nil, List.map_cons, List.map_nil, List.cons_append, List.nil_append, List.mem_cons, List.not_mem_nil, Nat.reduceLT, Nat.reduceLeDiff, Nat.reduceAdd, Nat.reduceEqDiff, Nat.zero_add, Nat.lt_add_one, not_false_eq_true, or_false, false_or, or_self, and_true, true_and, and_self, List.getD_cons_zero, List.getD_cons_succ, Nat.succ_ne_self, reduceCtorEq, ne_eq, List.replicate_zero, List.append_nil, Int.reduceToNat, Nat.zero_lt_succ, Nat.reduceSub, Nat.one_ne_zero, Nat.zero_ne_one]
  refine hT.useL hb1 (by omega) (by omega) fun b o2 hb hb2 => ?_
  have pos : 0 < (1 + a) * (1 + b) := Nat.mul_pos (by omega) (by omega)
  have le9 : (1 + a) * (1 + b) ≤ 9 := Nat.mul_le_mul (by omega : 1 + a ≤ 3) (by omega : 1 + b ≤ 3)
  have dv : (8 : Int) / (((1 + a) * (1 + b) : Nat) : Int) = ((8 / ((1 + a) * (1 + b)) : Nat) : Int) := (Int.natCast_ediv 8 _).symm
  have d8 : 8 / ((1 + a) * (1 + b)) ≤ 8 := Nat.div_le_self _ _
  simp (disch := first | omega | (simp only [List.length_map, F_len, List.length_append, List.length_cons, List.length_nil] <;> omega)) only [↓vA, uA, Option.bind_some, Option.map_some, Option.bind_none, Option.map_none, List.length_cons, List.length_nil, List.length_map, List.length_append, List.set_cons_zero, List.set_cons_succ, List.set_nil, List.map_cons, List.map_nil, List.cons_append, List.nil_append, List.mem_cons, List.not_mem_nil, Nat.reduceLT, Nat.reduceLeDiff, Nat.reduceAdd, Nat.reduceEqDiff, Nat.zero_add, Nat.lt_add_one, not_false_eq_true, or_false, false_or, or_self, and_true, true_and, and_self, List.getD_cons_zero, List.getD_cons_succ, Nat.succ_ne_self, reduceCtorEq, ne_eq, List.replicate_zero, List.append_nil, Int.reduceToNat, Nat.zero_lt_succ, Nat.reduceSub, Nat.one_ne_zero, Nat.zero_ne_one, dv]
  refine hP.use (room := 4) hb2 (by omega) (by omega) (by omega) (by omega) fun l L o3 okL hnL hdL hb3 => ?_
  simp (disch := first | omega | (simp only [List.length_map, F_len, List.length_append, List.length_cons, List.length_nil] <;> omega)) only [↓vA, uA, Option.bind_some, Option.map_some, Option.bind_none, Option.map_none, List.length_cons, List.length_nil, List.length_map, List.length_append, List.set_cons_zero, List.set_cons_succ, List.set_nil, List.map_cons, List.map_nil, List.cons_append, List.nil_append, List.mem_cons, List.not_mem_nil, Nat.reduceLT, Nat.reduceLeDiff, Nat.reduceAdd, Nat.reduceEqDiff, Nat.zero_add, Nat.lt_add_one, not_false_eq_true, or_false, false_or, or_self, and_true, true_and, and_self, List.getD_cons_zero, List.getD_cons_succ, Nat.succ_ne_self, reduceCtorEq, ne_eq, List.replicate_zero, List.append_nil, Int.reduceToNat, Nat.zero_lt_succ, Nat.reduceSub, Nat.one_ne_zero, Nat.zero_ne_one]
  refine hC.use hb3 okL (by omega) (by omega) (by omega) fun M g o4 okM ldM hnM hb4 => ?_
  have m8 : M.n ≤ 8 := by
    have h1 : L.n * (1 + b) ≤ max 1 (8 / ((1 + a) * (1 + b))) * (1 + b) := Nat.mul_le_mul_right _ hnL
    by_cases h : 8 / ((1 + a) * (1 + b)) = 0
    · rw [h] at h1; simp at h1; omega
    · have h2 : max 1 (8 / ((1 + a) * (1 + b))) = 8 / ((1 + a) * (1 + b)) := Nat.max_eq_right (Nat.one_le_iff_ne_zero.mpr h)
      have h3 := Nat.div_mul_le_self 8 ((1 + a) * (1 + b))
      have h4 : 8 / ((1 + a) * (1 + b)) * (1 + b) ≤ 8 / ((1 + a) * (1 + b)) * ((1 + a) * (1 + b)) := Nat.mul_le_mul_left _ (by have := Nat.mul_le_mul_right (1 + b) (by omega : 1 ≤ 1 + a); omega)
      rw [h2] at h1
      omega
  have mp := okM.pos
  have dv2 : (8 : Int) / ((M.n : Nat) : Int) = ((8 / M.n : Nat) : Int) := (Int.natCast_ediv 8 _).symm
  have e1 : 1 ≤ 8 / M.n := (Nat.le_div_iff_mul_le mp).mpr (by omega)
  simp (disch := first | omega | (simp only [List.length_map, F_len, List.length_append, List.length_cons, List.length_nil] <;> omega)) only [↓vA, uA, Option.bind_some, Option.map_some, Option.bind_none, Option.map_none, List.length_cons, List.length_nil, List.length_map, List.length_append, List.set_cons_zero, List.set_cons_succ, List.set_nil, List.map_cons, List.map_nil, List.cons_append, List.nil_append, List.mem_cons, List.not_mem_nil, Nat.reduceLT, Nat.reduceLeDiff, Nat.reduceAdd, Nat.reduceEqDiff, Nat.zero_add, Nat.lt_add_one, not_false_eq_true, or_false, false_or, or_self, and_true, true_and, and_self, List.getD_cons_zero, List.getD_cons_succ, Nat.succ_ne_self, reduceCtorEq, ne_eq, List.replicate_zero, List.append_nil, Int.reduceToNat, Nat.zero_lt_succ, Nat.reduceSub, Nat.one_ne_zero, Nat.zero_ne_one, ct_web, len_web, dv2]
  refine hC.use hb4 okM (by omega) (by omega) (by omega) fun W f o5 okW ldW hnW hb5 => ?_
  simp (disch := first | omega | (simp only [List.length_map, F_len, List.length_append, List.length_cons, List.length_nil] <;> omega)) only [↓vA, uA, Option.bind_some, Option.map_some, Option.bind_none, Option.map_none, List.length_cons, List.length_nil, List.length_map, List.length_append, List.set_cons_zero, List.set_cons_succ, List.set_nil, List.map_cons, List.map_nil, List.cons_append, List.nil_append, List.mem_cons, List.not_mem_nil, Nat.reduceLT, Nat.reduceLeDiff, Nat.reduceAdd, Nat.reduceEqDiff, Nat.zero_add, Nat.lt_add_one, not_false_eq_true, or_false, false_or, or_self, and_true, true_and, and_self, List.getD_cons_zero, List.getD_cons_succ, Nat.succ_ne_self, reduceCtorEq, ne_eq, List.replicate_zero, List.append_nil, Int.reduceToNat, Nat.zero_lt_succ, Nat.reduceSub, Nat.one_ne_zero, Nat.zero_ne_one]
  refine ⟨o5, W, M, L, f, g, rfl, okW, okM, okL, ldW, ldM, ?_, m8, by omega, rfl⟩
  have h5 : M.n * min (1 + a) (8 / M.n) ≤ M.n * (8 / M.n) := Nat.mul_le_mul_left _ (Nat.min_le_right _ _)
  have h6 := Nat.mul_div_le 8 M.n
  omega
theorem cnt_row {n : Nat} {f : Nat → Nat} {g : Nat} : cntOf (.d (.tup (rowL n f))) (.int (g : Nat)) = some (fib n f g).length := by
  have h1 : (D.int (g : Nat)).eqOk = true := eqOk_int
  have h2 : (D.tup (rowL n f)).eqOk = true := std_row.eqOk (by decide)
  have : cntOf (.d (.tup (rowL n f))) (.int (g : Nat)) = if (D.int (g : Nat)).eqOk && (D.tup (rowL n f)).eqOk then some ((rowL n f).countP fun z => z.eqb (.int (g : Nat))) else none := rfl
  rw [this, h1, h2]
  simp only [Bool.and_true, if_true, Option.some.injEq]
  unfold rowL F fib
  rw [List.countP_map, ← List.countP_eq_length_filter]
  exact List.countP_congr fun h _ => by simp only [Function.comp_def, eqb_int, cast_eq]
theorem ints_F {n : Nat} {z : Nat → Int} : intsOf (F n fun k => .int (z k)) = some ((List.range n).map z) := by
  unfold F
  induction List.range n with
  | nil => rfl
  | cons a l ih => simp only [List.map_cons, intsOf, ih, Option.map_some]
theorem maxI_const {c : Int} : ∀ n, maxI ((List.range (n + 1)).map fun _ => c) = c := by
  intro n
  have e : ((List.range (n + 1)).map fun _ => c) = List.replicate (n + 1) c := by rw [List.map_const']; simp
  rw [e]
  induction n with
  | zero => rfl
  | succ n ih => rw [List.replicate_succ, List.replicate_succ, maxI, ← List.replicate_succ, ih (by rw [List.map_const']; simp)]; omega
theorem minI_const {c : Int} : ∀ n, minI ((List.range (n + 1)).map fun _ => c) = c := by
  intro n
  have e : ((List.range (n + 1)).map fun _ => c) = List.replicate (n + 1) c := by rw [List.map_const']; simp
  rw [e]
  induction n with
  | zero => rfl
  | succ n ih => rw [List.replicate_succ, List.replicate_succ, minI, ← List.replicate_succ, ih (by rw [List.map_const']; simp)]; omega
theorem each_run (cal : Cal) (W L : Web) (f : Nat → Nat) (st : List O) (okW : W.Ok) (okL : L.Ok) (hf : Lead W L f) (hn : W.n ≤ 1000) (hL : L.n ≤ 1000) :
    runFd cal f_Lled_to_each [.val (.tup (rowL W.n f)), .val (.int (L.n : Nat))] st = .ok (.val (.int ((fib W.n f 0).length : Nat))) [] st := by
  refine vCO_eq (v_wCO_run ⟨rfl, rfl, by decide⟩ ?_)
  show V (denBl cal [] c_Lled_to_each) _ ⟨[.val (.tup (rowL W.n f)), .val (.int (L.n : Nat)), .no, .no], st⟩
  unfold c_Lled_to_each
  simp (disch := first | omega | (simp only [List.length_map, F_len, List.length_append, List.length_cons, List.length_nil] <;> omega)) only [↓vA, uA, Option.bind_some, Option.map_some, Option.bind_none, Option.map_none, List.length_cons, List.length_nil, List.length_map, List.length_append, List.set_cons_zero, List.set_cons_succ, List.set_nil, List.map_cons, List.map_nil, List.cons_append, List.nil_append, List.mem_cons, List.not_mem_nil, Nat.reduceLT, Nat.reduceLeDiff, Nat.reduceAdd, Nat.reduceEqDiff, Nat.zero_add, Nat.lt_add_one, not_false_eq_true, or_false, false_or, or_self, and_true, true_and, and_self, List.getD_cons_zero, List.getD_cons_succ, Nat.succ_ne_self, reduceCtorEq, ne_eq, List.replicate_zero, List.append_nil, Int.reduceToNat, Nat.zero_lt_succ, Nat.reduceSub, Nat.one_ne_zero, Nat.zero_ne_one, f_Lled_to_each]
  refine lc_map (fun _ => .int ((fib W.n f 0).length : Nat)) ?_ (fun g hg => ?_) ?_
  · omega
  · simp (disch := first | omega | (simp only [List.length_map, F_len, List.length_append, List.length_cons, List.length_nil] <;> omega)) only [↓vA, uA, Option.bind_some, Option.map_some, Option.bind_none, Option.map_none, List.length_cons, List.length_nil, List.length_map, List.length_append, List.set_cons_zero, List.set_cons_succ, List.set_nil, List.map_cons, List.map_nil, List.cons_append, List.nil_append, List.mem_cons, List.not_mem_nil, Nat.reduceLT, Nat.reduceLeDiff, Nat.reduceAdd, Nat.reduceEqDiff, Nat.zero_add, Nat.lt_add_one, not_false_eq_true, or_false, false_or, or_self, and_true, true_and, and_self, List.getD_cons_zero, List.getD_cons_succ, Nat.succ_ne_self, reduceCtorEq, ne_eq, List.replicate_zero, List.append_nil, Int.reduceToNat, Nat.zero_lt_succ, Nat.reduceSub, Nat.one_ne_zero, Nat.zero_ne_one, cnt_row, fib_eq okW okL hf g hg]
  have hlen : (fib W.n f 0).length ≤ 1000 := by
    unfold fib
    exact Nat.le_trans (List.length_filter_le _ _) (by simp; omega)
  have hp := okL.pos
  obtain ⟨m, hm⟩ : ∃ m, L.n = m + 1 := ⟨L.n - 1, by omega⟩
  have e1 : blt1 .min1 (.o (.lst (F L.n fun _ => D.int ((fib W.n f 0).length : Nat)))) = some (.val (.int ((fib W.n f 0).length : Nat))) := by
    have : blt1 .min1 (.o (.lst (F L.n fun _ => D.int ((fib W.n f 0).length : Nat)))) = (intsOf (F L.n fun _ => D.int ((fib W.n f 0).length : Nat))).bind fun l => if l.isEmpty then none else some (.val (.int (minI l))) := rfl
    rw [this, ints_F, Option.bind_some, hm, minI_const, if_neg (by simp)]
  have e2 : blt1 .max1 (.o (.lst (F L.n fun _ => D.int ((fib W.n f 0).length : Nat)))) = some (.val (.int ((fib W.n f 0).length : Nat))) := by
    have : blt1 .max1 (.o (.lst (F L.n fun _ => D.int ((fib W.n f 0).length : Nat)))) = (intsOf (F L.n fun _ => D.int ((fib W.n f 0).length : Nat))).bind fun l => if l.isEmpty then none else some (.val (.int (maxI l))) := rfl
    rw [this, ints_F, Option.bind_some, hm, maxI_const, if_neg (by simp)]
  generalize (fib W.n f 0).length = c at *
  simp (disch := first | omega | (simp only [List.length_map, F_len, List.length_append, List.length_cons, List.length_nil] <;> omega)) only [↓vA, uA, Option.bind_some, Option.map_some, Option.bind_none, Option.map_none, List.length_cons, List.length_nil, List.length_map, List.length_append, List.set_cons_zero, List.set_cons_succ, List.set_nil, List.map_cons, List.map_nil, List.cons_append, List.nil_append, List.mem_cons, List.not_mem_nil, Nat.reduceLT, Nat.reduceLeDiff, Nat.reduceAdd, Nat.reduceEqDiff, Nat.zero_add, Nat.lt_add_one, not_false_eq_true, or_false, false_or, or_self, and_true, true_and, and_self, List.getD_cons_zero, List.getD_cons_succ, Nat.succ_ne_self, reduceCtorEq, ne_eq, List.replicate_zero, List.append_nil, Int.reduceToNat, Nat.zero_lt_succ, Nat.reduceSub, Nat.one_ne_zero, Nat.zero_ne_one, e1, e2, decide_true, if_true, Int.mul_one]
theorem al_row {n : Nat} {f : Nat → Nat} (h : n ≤ 1000) : Al 1 (.tup (rowL n f)) := .tup (fun x hx => by
  obtain ⟨k, _, rfl⟩ := List.mem_map.mp hx
  exact .int) (by rw [rowL_len]; omega)
theorem law_run (ns : List Int) (hns : ns.length ≤ 63) : ∃ st', runFd (calN tab 40) f_law [.val (.klst (ns.map D.int))] [] = .ok (.val (.bl true)) [] st' := by
  have hB : Box (calN tab 40) := dtab.Box (by omega)
  have h3 : ∀ (o : O) (st : List O), BoxOk o → vCO (calN tab 40 "_law_three" [.own o] st) fun r os st' => ∃ (o' : O) (W M L : Web) (f g : Nat → Nat), os = [o'] ∧ W.Ok ∧ M.Ok ∧ L.Ok ∧ Lead W M f ∧ Lead M L g ∧ W.n ≤ 8 ∧ M.n ≤ 8 ∧ L.n ≤ 8 ∧ r = .val (.tup [webD W, webD M, webD L, .tup (rowL W.n f), .tup (rowL M.n g)]) :=
    fun o st ho => three_run (cal := calN tab 39) (dtab.Take (by omega)) (dtab.Plain (by omega)) (dtab.Cover (by omega)) o st ho
  have hA : ∀ (n : Nat) (f : Nat → Nat) (st : List O), n ≤ 1000 → calN tab 40 "_law_alike" [.val (.tup (rowL n f)), .val (.tup (rowL n f))] st = .ok (.val (.bl true)) [] st := fun n f st h1 => alike_at rfl 1 40 (by omega) _ (al_row h1) st
  have hF : ∀ (n m : Nat) (f g : Nat → Nat) (st : List O), n ≤ 10000 → (∀ k, k < n → f k < m) → calN tab 40 "followed" [.val (.tup (rowL n f)), .val (.tup (rowL m g))] st = .ok (.val (.tup (rowL n fun k => g (f k)))) [] st := fun n m f g st h1 h2 => PG.followed_run (calN tab 39) n m f g st h1 h2
  have hI0 : ∀ (k : Nat), 1 ≤ k → ∀ (W U : Web) (f : Nat → Nat) (st : List O), W.Ok → W.n ≤ 1000 → (∀ h, h < W.n → f h < U.n) → calN tab k "is_leading" [.val (webD W), .val (webD U), .val (.tup (rowL W.n f))] st = .ok (.val (.bl (dc (Lead W U f)))) [] st := fun k hk W U f st ok h1 h2 => by
    obtain ⟨k, rfl⟩ : ∃ j, k = j + 1 := ⟨k - 1, by omega⟩
    have := PG.is_leading_run (calN tab k) W U W.n (fun k => ((f k : Nat) : Int)) st (fun h hh p hp => (ok.tie h hh p hp).1) (by omega) (by omega) (fun h hh => Nat.le_trans (ok.dg h hh) (by omega))
    rw [leadZ_nat h2] at this
    exact this
  have hI := hI0 40 (by omega)
  have hLd : ∀ (W U : Web) (st : List O), W.Ok → U.Ok → W.n ≤ 1000 → U.n ≤ 1000 → calN tab 40 "leadings" [.val (webD W), .val (webD U)] st = .ok (.new (.lst (leadsL W U))) [] st := fun W U st okW okU h1 h2 =>
    PG.leadings_run (cal := calN tab 39) W U st okW (fun h hh p hp => (okU.tie h hh p hp).1) (by omega) (by omega)
      (fun b hb => PG.led_from_run (calN tab 38) W U b st okW (fun h hh p hp => (okU.tie h hh p hp).1) (by omega) hb) (fun v hv => hI0 39 (by omega) W U v st okW h1 hv)
  have hE : ∀ (W L : Web) (f : Nat → Nat) (st : List O), W.Ok → L.Ok → Lead W L f → W.n ≤ 1000 → L.n ≤ 1000 → calN tab 40 "_law_led_to_each" [.val (.tup (rowL W.n f)), .val (.int (L.n : Nat))] st = .ok (.val (.int ((fib W.n f 0).length : Nat))) [] st := fun W L f st h1 h2 h3 h4 h5 => each_run (calN tab 39) W L f st h1 h2 h3 h4 h5
  clear hI0
  generalize calN tab 40 = cal at *
  suffices h : vCO (runFd cal f_law [.val (.klst (ns.map D.int))] []) fun r os st' => r = .val (.bl true) ∧ os = [] by
    cases e : runFd cal f_law [.val (.klst (ns.map D.int))] [] with
    | bad => rw [e] at h; exact h.elim
    | ok r os st' => rw [e] at h; obtain ⟨rfl, rfl⟩ := h; exact ⟨st', rfl⟩
  refine v_wCO_run ⟨rfl, rfl, by decide⟩ ?_
  show V (denBl cal [] c_law) _ ⟨[.val (.klst (ns.map D.int)), .no, .no, .no, .no, .no, .no, .no, .no, .no, .no, .no], []⟩
  unfold c_law
  simp (disch := first | omega | (simp only [List.length_map, F_len, List.length_append, List.length_cons, List.length_nil] <;> omega)) only [↓vA, uA, Option.bind_some, Option.map_some, Option.bind_none, Option.map_none, List.length_cons, List.length_nil, List.length_map, List.length_append, List.set_cons_zero, List.set_cons_succ, List.set_nil, List.map_cons, List.map_nil, List.cons_append, List.nil_append, List.mem_cons, List.not_mem_nil, Nat.reduceLT, Nat.reduceLeDiff, Nat.reduceAdd, Nat.reduceEqDiff, Nat.zero_add, Nat.lt_add_one, not_false_eq_true, or_false, false_or, or_self, and_true, true_and, and_self, List.getD_cons_zero, List.getD_cons_succ, Nat.succ_ne_self, reduceCtorEq, ne_eq, List.replicate_zero, List.append_nil, Int.reduceToNat, Nat.zero_lt_succ, Nat.reduceSub, Nat.one_ne_zero, Nat.zero_ne_one, f_law, List.length_take]
  refine for_ix (fun k s => ∃ (st : List O) (x1 x2 x3 x4 x5 x6 x7 x8 x9 x10 : Sl), s = ⟨[.val (.klst (ns.map D.int)), x1, x2, x3, x4, x5, x6, x7, x8, x9, x10, .no], st⟩) ?_ ?_ ?_
  · exact ⟨_, _, _, _, _, _, _, _, _, _, _, rfl⟩
  · rintro k_ hk s ⟨st, x1, x2, x3, x4, x5, x6, x7, x8, x9, x10, rfl⟩
    simp (disch := first | omega | (simp only [List.length_map, F_len, List.length_append, List.length_cons, List.length_nil] <;> omega)) only [↓vA, uA, Option.bind_some, Option.map_some, Option.bind_none, Option.map_none, List.length_cons, List.length_nil, List.length_map, List.length_append, List.set_cons_zero, List.set_cons_succ, List.set_nil, List.map_cons, List.map_nil, List.cons_append, List.nil_append, List.mem_cons, List.not_mem_nil, Nat.reduceLT, Nat.reduceLeDiff, Nat.reduceAdd, Nat.reduceEqDiff, Nat.zero_add, Nat.lt_add_one, not_false_eq_true, or_false, false_or, or_self, and_true, true_and, and_self, List.getD_cons_zero, List.getD_cons_succ, Nat.succ_ne_self, reduceCtorEq, ne_eq, List.replicate_zero, List.append_nil, Int.reduceToNat, Nat.zero_lt_succ, Nat.reduceSub, Nat.one_ne_zero, Nat.zero_ne_one]
    refine hB.use hns (by omega) fun o hb => ?_
    simp (disch := first | omega | (simp only [List.length_map, F_len, List.length_append, List.length_cons, List.length_nil] <;> omega)) only [↓vA, uA, Option.bind_some, Option.map_some, Option.bind_none, Option.map_none, List.length_cons, List.length_nil, List.length_map, List.length_append, List.set_cons_zero, List.set_cons_succ, List.set_nil, List.map_cons, List.map_nil, List.cons_append, List.nil_append, List.mem_cons, List.not_mem_nil, Nat.reduceLT, Nat.reduceLeDiff, Nat.reduceAdd, Nat.reduceEqDiff, Nat.zero_add, Nat.lt_add_one, not_false_eq_true, or_false, false_or, or_self, and_true, true_and, and_self, List.getD_cons_zero, List.getD_cons_succ, Nat.succ_ne_self, reduceCtorEq, ne_eq, List.replicate_zero, List.append_nil, Int.reduceToNat, Nat.zero_lt_succ, Nat.reduceSub, Nat.one_ne_zero, Nat.zero_ne_one]
    refine v_wCO_mono (h3 o st hb) ?_
    rintro _ _ st1 ⟨o', W, M, L, f, g, rfl, okW, okM, okL, hf, hg, nW, nM, nL, rfl⟩
    have hbo := lead_comp hf hg
    have f1 := hF W.n M.n f g st1 (by omega) hf.lt
    have a1 := hA W.n (fun k => g (f k)) st1 (by omega)
    have i1 := hI W L (fun k => g (f k)) st1 okW (by omega) hbo.lt
    rw [dc_iff.mpr hbo] at i1
    simp (disch := first | omega | (simp only [List.length_map, F_len, List.length_append, List.length_cons, List.length_nil] <;> omega)) only [↓vA, uA, Option.bind_some, Option.map_some, Option.bind_none, Option.map_none, List.length_cons, List.length_nil, List.length_map, List.length_append, List.set_cons_zero, List.set_cons_succ, List.set_nil, List.map_cons, List.map_nil, List.cons_append, List.nil_append, List.mem_cons, List.not_mem_nil, Nat.reduceLT, Nat.reduceLeDiff, Nat.reduceAdd, Nat.reduceEqDiff, Nat.zero_add, Nat.lt_add_one, not_false_eq_true, or_false, false_or, or_self, and_true, true_and, and_self, List.getD_cons_zero, List.getD_cons_succ, Nat.succ_ne_self, reduceCtorEq, ne_eq, List.replicate_zero, List.append_nil, Int.reduceToNat, Nat.zero_lt_succ, Nat.reduceSub, Nat.one_ne_zero, Nat.zero_ne_one, f1]
    have it : (rowL W.n f).map Itm.v = FI W.n fun k => .v (.int (f k : Nat)) := F_mapv
    rw [it]
    refine lc_map (fun k => .int ((g (f k) : Nat) : Int)) ?_ (fun k hk => ?_) ?_
    · omega
    · have := hf.lt k hk
      simp (disch := first | omega | (simp only [List.length_map, F_len, List.length_append, List.length_cons, List.length_nil] <;> omega)) only [↓vA, uA, Option.bind_some, Option.map_some, Option.bind_none, Option.map_none, List.length_cons, List.length_nil, List.length_map, List.length_append, List.set_cons_zero, List.set_cons_succ, List.set_nil, List.map_cons, List.map_nil, List.cons_append, List.nil_append, List.mem_cons, List.not_mem_nil, Nat.reduceLT, Nat.reduceLeDiff, Nat.reduceAdd, Nat.reduceEqDiff, Nat.zero_add, Nat.lt_add_one, not_false_eq_true, or_false, false_or, or_self, and_true, true_and, and_self, List.getD_cons_zero, List.getD_cons_succ, Nat.succ_ne_self, reduceCtorEq, ne_eq, List.replicate_zero, List.append_nil, Int.reduceToNat, Nat.zero_lt_succ, Nat.reduceSub, Nat.one_ne_zero, Nat.zero_ne_one, rowL]
    have er : F W.n (fun k => D.int ((g (f k) : Nat) : Int)) = rowL W.n fun k => g (f k) := rfl
    have tr : ∀ n, F n (fun k => D.int ((k : Nat) : Int)) = rowL n fun k => k := fun _ => rfl
    have f2 := hF W.n W.n (fun k => k) f st1 (by omega) (fun _ h => h)
    have f3 := hF W.n M.n f (fun k => k) st1 (by omega) hf.lt
    have ne : ∀ (n : Nat) (f : Nat → Nat), cmpCt .ne (.d (.tup (rowL n f))) (.d (.tup (rowL n f))) = some false := fun n f => by rw [cmp_neS std_row std_row (by decide) rfl rfl, dc_iff.mpr rfl]; rfl
    have l1 := hLd W L st1 okW okL (by omega) (by omega)
    have l2 := hLd W M st1 okW okM (by omega) (by omega)
    simp (disch := first | omega | (simp only [List.length_map, F_len, List.length_append, List.length_cons, List.length_nil] <;> omega)) only [↓vA, uA, Option.bind_some, Option.map_some, Option.bind_none, Option.map_none, List.length_cons, List.length_nil, List.length_map, List.length_append, List.set_cons_zero, List.set_cons_succ, List.set_nil, List.map_cons, List.map_nil, List.cons_append, List.nil_append, List.mem_cons, List.not_mem_nil, Nat.reduceLT, Nat.reduceLeDiff, Nat.reduceAdd, Nat.reduceEqDiff, Nat.zero_add, Nat.lt_add_one, not_false_eq_true, or_false, false_or, or_self, and_true, true_and, and_self, List.getD_cons_zero, List.getD_cons_succ, Nat.succ_ne_self, reduceCtorEq, ne_eq, List.replicate_zero, List.append_nil, Int.reduceToNat, Nat.zero_lt_succ, Nat.reduceSub, Nat.one_ne_zero, Nat.zero_ne_one, er, a1, i1, Bool.not_true, beq_self_eq_true, ct_web, len_web, tr, f2, f3, ne, l1, l2]
    obtain ⟨m2, g2, e2, b2, p2⟩ := leads_F (W := W) (U := M)
    obtain ⟨m3, g3, e3, b3, p3⟩ := leads_F (W := M) (U := L)
    rw [e2]
    simp (disch := first | omega | (simp only [List.length_map, F_len, List.length_append, List.length_cons, List.length_nil] <;> omega)) only [↓vA, uA, Option.bind_some, Option.map_some, Option.bind_none, Option.map_none, List.length_cons, List.length_nil, List.length_map, List.length_append, List.set_cons_zero, List.set_cons_succ, List.set_nil, List.map_cons, List.map_nil, List.cons_append, List.nil_append, List.mem_cons, List.not_mem_nil, Nat.reduceLT, Nat.reduceLeDiff, Nat.reduceAdd, Nat.reduceEqDiff, Nat.zero_add, Nat.lt_add_one, not_false_eq_true, or_false, false_or, or_self, and_true, true_and, and_self, List.getD_cons_zero, List.getD_cons_succ, Nat.succ_ne_self, reduceCtorEq, ne_eq, List.replicate_zero, List.append_nil, Int.reduceToNat, Nat.zero_lt_succ, Nat.reduceSub, Nat.one_ne_zero, Nat.zero_ne_one]
    refine for_ix (fun k s => ∃ (x4 x10 : Sl), s = ⟨[.val (.klst (ns.map D.int)), .val (.int (k_ : Nat)), .val (.tup (rowL W.n fun k => g (f k))), .val (.lst (leadsL W L)), x4, .val (webD W), .val (webD M), .val (webD L), .val (.tup (rowL W.n f)), .val (.tup (rowL M.n g)), x10, .no], st1⟩) ?_ ?_ ?_
    · exact ⟨_, _, rfl⟩
    · rintro i hi s ⟨x4, x10, rfl⟩
      obtain ⟨f', hf', eg⟩ := p2 i hi
      have l3 := hLd M L st1 okM okL (by omega) (by omega)
      simp (disch := first | omega | (simp only [List.length_map, F_len, List.length_append, List.length_cons, List.length_nil] <;> omega)) only [↓vA, uA, Option.bind_some, Option.map_some, Option.bind_none, Option.map_none, List.length_cons, List.length_nil, List.length_map, List.length_append, List.set_cons_zero, List.set_cons_succ, List.set_nil, List.map_cons, List.map_nil, List.cons_append, List.nil_append, List.mem_cons, List.not_mem_nil, Nat.reduceLT, Nat.reduceLeDiff, Nat.reduceAdd, Nat.reduceEqDiff, Nat.zero_add, Nat.lt_add_one, not_false_eq_true, or_false, false_or, or_self, and_true, true_and, and_self, List.getD_cons_zero, List.getD_cons_succ, Nat.succ_ne_self, reduceCtorEq, ne_eq, List.replicate_zero, List.append_nil, Int.reduceToNat, Nat.zero_lt_succ, Nat.reduceSub, Nat.one_ne_zero, Nat.zero_ne_one, eg, l3, e3]
      refine for_ix (fun k s => ∃ (x10 : Sl), s = ⟨[.val (.klst (ns.map D.int)), .val (.int (k_ : Nat)), .val (.tup (rowL W.n fun k => g (f k))), .val (.lst (leadsL W L)), .val (.tup (rowL W.n f')), .val (webD W), .val (webD M), .val (webD L), .val (.tup (rowL W.n f)), .val (.tup (rowL M.n g)), x10, .no], st1⟩) ?_ ?_ ?_
      · exact ⟨_, rfl⟩
      · rintro j hj s ⟨x10, rfl⟩
        obtain ⟨g', hg', eg'⟩ := p3 j hj
        have f4 := hF W.n M.n f' g' st1 (by omega) hf'.lt
        have inn := in_std (std_row (n := W.n) (f := fun k => g' (f' k)) |>.mono (by omega : 1 ≤ 2)) (std_leads (W := W) (U := L)) (by decide) (.d (.tup (rowL W.n fun k => g' (f' k)))) rfl
        rw [dc_iff.mpr (mem_leads okW (lead_comp hf' hg'))] at inn
        simp (disch := first | omega | (simp only [List.length_map, F_len, List.length_append, List.length_cons, List.length_nil] <;> omega)) only [↓vA, uA, Option.bind_some, Option.map_some, Option.bind_none, Option.map_none, List.length_cons, List.length_nil, List.length_map, List.length_append, List.set_cons_zero, List.set_cons_succ, List.set_nil, List.map_cons, List.map_nil, List.cons_append, List.nil_append, List.mem_cons, List.not_mem_nil, Nat.reduceLT, Nat.reduceLeDiff, Nat.reduceAdd, Nat.reduceEqDiff, Nat.zero_add, Nat.lt_add_one, not_false_eq_true, or_false, false_or, or_self, and_true, true_and, and_self, List.getD_cons_zero, List.getD_cons_succ, Nat.succ_ne_self, reduceCtorEq, ne_eq, List.replicate_zero, List.append_nil, Int.reduceToNat, Nat.zero_lt_succ, Nat.reduceSub, Nat.one_ne_zero, Nat.zero_ne_one, eg', f4, cmp_notin, inn, Bool.not_true]
        exact ⟨_, rfl⟩
      · rintro s ⟨x10, rfl⟩
        simp (disch := first | omega | (simp only [List.length_map, F_len, List.length_append, List.length_cons, List.length_nil] <;> omega)) only [↓vA, uA, Option.bind_some, Option.map_some, Option.bind_none, Option.map_none, List.length_cons, List.length_nil, List.length_map, List.length_append, List.set_cons_zero, List.set_cons_succ, List.set_nil, List.map_cons, List.map_nil, List.cons_append, List.nil_append, List.mem_cons, List.not_mem_nil, Nat.reduceLT, Nat.reduceLeDiff, Nat.reduceAdd, Nat.reduceEqDiff, Nat.zero_add, Nat.lt_add_one, not_false_eq_true, or_false, false_or, or_self, and_true, true_and, and_self, List.getD_cons_zero, List.getD_cons_succ, Nat.succ_ne_self, reduceCtorEq, ne_eq, List.replicate_zero, List.append_nil, Int.reduceToNat, Nat.zero_lt_succ, Nat.reduceSub, Nat.one_ne_zero, Nat.zero_ne_one]
        exact ⟨_, _, rfl⟩
    · rintro s ⟨x4, x10, rfl⟩
      have inn := in_std (std_row (n := W.n) (f := fun k => g (f k)) |>.mono (by omega : 1 ≤ 2)) (std_leads (W := W) (U := L)) (by decide) (.d (.tup (rowL W.n fun k => g (f k)))) rfl
      rw [dc_iff.mpr (mem_leads okW hbo)] at inn
      simp (disch := first | omega | (simp only [List.length_map, F_len, List.length_append, List.length_cons, List.length_nil] <;> omega)) only [↓vA, uA, Option.bind_some, Option.map_some, Option.bind_none, Option.map_none, List.length_cons, List.length_nil, List.length_map, List.length_append, List.set_cons_zero, List.set_cons_succ, List.set_nil, List.map_cons, List.map_nil, List.cons_append, List.nil_append, List.mem_cons, List.not_mem_nil, Nat.reduceLT, Nat.reduceLeDiff, Nat.reduceAdd, Nat.reduceEqDiff, Nat.zero_add, Nat.lt_add_one, not_false_eq_true, or_false, false_or, or_self, and_true, true_and, and_self, List.getD_cons_zero, List.getD_cons_succ, Nat.succ_ne_self, reduceCtorEq, ne_eq, List.replicate_zero, List.append_nil, Int.reduceToNat, Nat.zero_lt_succ, Nat.reduceSub, Nat.one_ne_zero, Nat.zero_ne_one, cmp_notin, inn, Bool.not_true, f1, ne]
      obtain ⟨m4, g4, e4, b4, p4⟩ := leads_F (W := W) (U := L)
      rw [e4]
      simp (disch := first | omega | (simp only [List.length_map, F_len, List.length_append, List.length_cons, List.length_nil] <;> omega)) only [↓vA, uA, Option.bind_some, Option.map_some, Option.bind_none, Option.map_none, List.length_cons, List.length_nil, List.length_map, List.length_append, List.set_cons_zero, List.set_cons_succ, List.set_nil, List.map_cons, List.map_nil, List.cons_append, List.nil_append, List.mem_cons, List.not_mem_nil, Nat.reduceLT, Nat.reduceLeDiff, Nat.reduceAdd, Nat.reduceEqDiff, Nat.zero_add, Nat.lt_add_one, not_false_eq_true, or_false, false_or, or_self, and_true, true_and, and_self, List.getD_cons_zero, List.getD_cons_succ, Nat.succ_ne_self, reduceCtorEq, ne_eq, List.replicate_zero, List.append_nil, Int.reduceToNat, Nat.zero_lt_succ, Nat.reduceSub, Nat.one_ne_zero, Nat.zero_ne_one]
      refine lc_map (fun _ => .bl false) ?_ (fun i hi => ?_) ?_
      · omega
      · obtain ⟨f5, hf5, eg⟩ := p4 i hi
        have c1 := hE W L f5 st1 okW okL hf5 (by omega) (by omega)
        have c2 := fib_mul okW okL hf5
        have c3 : (fib W.n f5 0).length ≤ W.n := by
          unfold fib
          exact Nat.le_trans (List.length_filter_le _ _) (by simp)
        simp (disch := first | omega | (simp only [List.length_map, F_len, List.length_append, List.length_cons, List.length_nil] <;> omega)) only [↓vA, uA, Option.bind_some, Option.map_some, Option.bind_none, Option.map_none, List.length_cons, List.length_nil, List.length_map, List.length_append, List.set_cons_zero, List.set_cons_succ, List.set_nil, List.map_cons, List.map_nil, List.cons_append, List.nil_append, List.mem_cons, List.not_mem_nil, Nat.reduceLT, Nat.reduceLeDiff, Nat.reduceAdd, Nat.reduceEqDiff, Nat.zero_add, Nat.lt_add_one, not_false_eq_true, or_false, false_or, or_self, and_true, true_and, and_self, List.getD_cons_zero, List.getD_cons_succ, Nat.succ_ne_self, reduceCtorEq, ne_eq, List.replicate_zero, List.append_nil, Int.reduceToNat, Nat.zero_lt_succ, Nat.reduceSub, Nat.one_ne_zero, Nat.zero_ne_one, eg, ct_web, len_web, c1]
        rw [c2]
        simp
      have any : blt1 .any (.o (.lst (F m4 fun _ => D.bl false))) = some (.val (.bl false)) := by
        rw [b_any, bls_F (b := fun _ => false)]
        simp
      simp (disch := first | omega | (simp only [List.length_map, F_len, List.length_append, List.length_cons, List.length_nil] <;> omega)) only [↓vA, uA, Option.bind_some, Option.map_some, Option.bind_none, Option.map_none, List.length_cons, List.length_nil, List.length_map, List.length_append, List.set_cons_zero, List.set_cons_succ, List.set_nil, List.map_cons, List.map_nil, List.cons_append, List.nil_append, List.mem_cons, List.not_mem_nil, Nat.reduceLT, Nat.reduceLeDiff, Nat.reduceAdd, Nat.reduceEqDiff, Nat.zero_add, Nat.lt_add_one, not_false_eq_true, or_false, false_or, or_self, and_true, true_and, and_self, List.getD_cons_zero, List.getD_cons_succ, Nat.succ_ne_self, reduceCtorEq, ne_eq, List.replicate_zero, List.append_nil, Int.reduceToNat, Nat.zero_lt_succ, Nat.reduceSub, Nat.one_ne_zero, Nat.zero_ne_one, any]
      exact ⟨_, _, _, _, _, _, _, _, _, _, _, rfl⟩
  · rintro s ⟨st, x1, x2, x3, x4, x5, x6, x7, x8, x9, x10, rfl⟩
    simp (disch := first | omega | (simp only [List.length_map, F_len, List.length_append, List.length_cons, List.length_nil] <;> omega)) only [↓vA, uA, Option.bind_some, Option.map_some, Option.bind_none, Option.map_none, List.length_cons, List.length_nil, List.length_map, List.length_append, List.set_cons_zero, List.set_cons_succ, List.set_nil, List.map_cons, List.map_nil, List.cons_append, List.nil_append, List.mem_cons, List.not_mem_nil, Nat.reduceLT, Nat.reduceLeDiff, Nat.reduceAdd, Nat.reduceEqDiff, Nat.zero_add, Nat.lt_add_one, not_false_eq_true, or_false, false_or, or_self, and_true, true_and, and_self, List.getD_cons_zero, List.getD_cons_succ, Nat.succ_ne_self, reduceCtorEq, ne_eq, List.replicate_zero, List.append_nil, Int.reduceToNat, Nat.zero_lt_succ, Nat.reduceSub, Nat.one_ne_zero, Nat.zero_ne_one]
end NH.K08

set_option Elab.async false
set_option linter.all false
set_option maxRecDepth 100000
set_option maxHeartbeats 0
set_option autoImplicit false
namespace NH.K08
open PySem L2
def d_is_leading : He.DefD := ⟨("is_leading", none), "is_leading", "is_leading", defArgs (top 1), defBody (top 1), defScope (top 1), [], []⟩
def d_led_from : He.DefD := ⟨("led_from", none), "led_from", "led_from", defArgs (top 2), defBody (top 2), defScope (top 2), [], []⟩
def d_leadings : He.DefD := ⟨("leadings", none), "leadings", "leadings", defArgs (top 3), defBody (top 3), defScope (top 3), [], []⟩
def d_followed : He.DefD := ⟨("followed", none), "followed", "followed", defArgs (top 4), defBody (top 4), defScope (top 4), [], []⟩
def d_Lbox : He.DefD := ⟨("_law_box", none), "_law_box", "_law_box", defArgs (top 6), defBody (top 6), defScope (top 6), [], []⟩
def d_Ltake : He.DefD := ⟨("_law_take", none), "_law_take", "_law_take", defArgs (top 7), defBody (top 7), defScope (top 7), [], []⟩
def d_Lalike : He.DefD := ⟨("_law_alike", none), "_law_alike", "_law_alike", defArgs (top 8), defBody (top 8), defScope (top 8), [], []⟩
def d_Lshuffled : He.DefD := ⟨("_law_shuffled", none), "_law_shuffled", "_law_shuffled", defArgs (top 9), defBody (top 9), defScope (top 9), [], []⟩
def d_Lties : He.DefD := ⟨("_law_ties", none), "_law_ties", "_law_ties", defArgs (top 10), defBody (top 10), defScope (top 10), [], []⟩
def d_Lmarks : He.DefD := ⟨("_law_marks", none), "_law_marks", "_law_marks", defArgs (top 11), defBody (top 11), defScope (top 11), [], []⟩
def d_Lplain_web : He.DefD := ⟨("_law_plain_web", none), "_law_plain_web", "_law_plain_web", defArgs (top 12), defBody (top 12), defScope (top 12), [], []⟩
def d_Lrenamed : He.DefD := ⟨("_law_renamed", none), "_law_renamed", "_law_renamed", defArgs (top 13), defBody (top 13), defScope (top 13), [], []⟩
def d_Lturnings : He.DefD := ⟨("_law_turnings", none), "_law_turnings", "_law_turnings", defArgs (top 14), defBody (top 14), defScope (top 14), [], []⟩
def d_Lcover : He.DefD := ⟨("_law_cover", none), "_law_cover", "_law_cover", defArgs (top 15), defBody (top 15), defScope (top 15), [], []⟩
def d_Lweb : He.DefD := ⟨("_law_web", none), "_law_web", "_law_web", defArgs (top 16), defBody (top 16), defScope (top 16), [], []⟩
def d_Lthree : He.DefD := ⟨("_law_three", none), "_law_three", "_law_three", defArgs (top 17), defBody (top 17), defScope (top 17), [], []⟩
def d_Lled_to_each : He.DefD := ⟨("_law_led_to_each", none), "_law_led_to_each", "_law_led_to_each", defArgs (top 18), defBody (top 18), defScope (top 18), [], []⟩
def d_law : He.DefD := ⟨("law", none), "law", "law", defArgs (top 19), defBody (top 19), defScope (top 19), [], []⟩
def fn : List He.DefD := [d_is_leading, d_led_from, d_leadings, d_followed, d_Lbox, d_Ltake, d_Lalike, d_Lshuffled, d_Lties, d_Lmarks, d_Lplain_web, d_Lrenamed, d_Lturnings, d_Lcover, d_Lweb, d_Lthree, d_Lled_to_each, d_law]
def fa : List He.Fa := [.glo "is_leading", .glo "led_from", .glo "leadings", .glo "followed", .glo "_law_box", .glo "_law_take", .glo "_law_alike", .glo "_law_shuffled", .glo "_law_ties", .glo "_law_marks", .glo "_law_plain_web", .glo "_law_renamed", .glo "_law_turnings", .glo "_law_cover", .glo "_law_web", .glo "_law_three", .glo "_law_led_to_each", .glo "law"] ++ bltNames.map He.Fa.free
abbrev R : PySem.W.OpenRow := PySem.W.OpenLaw.row PySem.Challenge.rw_namelesshall_k08_whole_one_leading_behin
abbrev hk : PySem.W.Hook := He.hookD 4 fa fn
def ob (s : PySem.W.SharedT) : He.AlD := He.obsDG 4 fa fn (HandSHeadRun.getT s)
theorem ob_eq (s : PySem.W.SharedT) : ob s = hk.obs s.abs := He.obsDG_eq (HandSHeadRun.getT_eq s)
theorem run (w : World) : HandSHeadRun.RunEq R (PySem.W.view R.prog [19]) hk ob 4000 ["is_leading", "led_from", "leadings", "followed", "_law_box", "_law_take", "_law_alike", "_law_shuffled", "_law_ties", "_law_marks", "_law_plain_web", "_law_renamed", "_law_turnings", "_law_cover", "_law_web", "_law_three", "_law_led_to_each"] w := by
  intro os
  kernel_rfl
section
variable {K : PySem.W.Frag} {h : Heap} {mg : Str → Option Value}
theorem ta_is_leading (X : K.In h) (G : h.Ns mainGlobals mg) (c : He.SaysD fa fn K) : TabAt K mg "is_leading" f_is_leading := by
  obtain ⟨fd, F⟩ := c.defs (d := d_is_leading) (by simp [fn])
  exact ⟨_, fd, _, _, _, _, N_is_leading, ["web", "other", "row"], He.glo_ok X G (c.facts (f := .glo "is_leading") (by simp [fa])), F.bindsN fun _ _ _ _ _ _ us hl => match us, hl with | [_, _, _], _ => rfl, F, sc_is_leading, rfl, rfl, ck_is_leading⟩
theorem ta_led_from (X : K.In h) (G : h.Ns mainGlobals mg) (c : He.SaysD fa fn K) : TabAt K mg "led_from" f_led_from := by
  obtain ⟨fd, F⟩ := c.defs (d := d_led_from) (by simp [fn])
  exact ⟨_, fd, _, _, _, _, N_led_from, ["web", "other", "begin"], He.glo_ok X G (c.facts (f := .glo "led_from") (by simp [fa])), F.bindsN fun _ _ _ _ _ _ us hl => match us, hl with | [_, _, _], _ => rfl, F, sc_led_from, rfl, rfl, ck_led_from⟩
theorem ta_leadings (X : K.In h) (G : h.Ns mainGlobals mg) (c : He.SaysD fa fn K) : TabAt K mg "leadings" f_leadings := by
  obtain ⟨fd, F⟩ := c.defs (d := d_leadings) (by simp [fn])
  exact ⟨_, fd, _, _, _, _, N_leadings, ["web", "other"], He.glo_ok X G (c.facts (f := .glo "leadings") (by simp [fa])), F.bindsN fun _ _ _ _ _ _ us hl => match us, hl with | [_, _], _ => rfl, F, sc_leadings, rfl, rfl, ck_leadings⟩
theorem ta_followed (X : K.In h) (G : h.Ns mainGlobals mg) (c : He.SaysD fa fn K) : TabAt K mg "followed" f_followed := by
  obtain ⟨fd, F⟩ := c.defs (d := d_followed) (by simp [fn])
  exact ⟨_, fd, _, _, _, _, N_followed, ["first", "second"], He.glo_ok X G (c.facts (f := .glo "followed") (by simp [fa])), F.bindsN fun _ _ _ _ _ _ us hl => match us, hl with | [_, _], _ => rfl, F, sc_followed, rfl, rfl, ck_followed⟩
theorem ta_Lbox (X : K.In h) (G : h.Ns mainGlobals mg) (c : He.SaysD fa fn K) : TabAt K mg "_law_box" f_Lbox := by
  obtain ⟨fd, F⟩ := c.defs (d := d_Lbox) (by simp [fn])
  exact ⟨_, fd, _, _, _, _, N_Lbox, ["_law_script", "_law_k"], He.glo_ok X G (c.facts (f := .glo "_law_box") (by simp [fa])), F.bindsN fun _ _ _ _ _ _ us hl => match us, hl with | [_, _], _ => rfl, F, sc_Lbox, rfl, rfl, ck_Lbox⟩
theorem ta_Ltake (X : K.In h) (G : h.Ns mainGlobals mg) (c : He.SaysD fa fn K) : TabAt K mg "_law_take" f_Ltake := by
  obtain ⟨fd, F⟩ := c.defs (d := d_Ltake) (by simp [fn])
  exact ⟨_, fd, _, _, _, _, N_Ltake, ["_law_box_here", "_law_wide"], He.glo_ok X G (c.facts (f := .glo "_law_take") (by simp [fa])), F.bindsN fun _ _ _ _ _ _ us hl => match us, hl with | [_, _], _ => rfl, F, sc_Ltake, rfl, rfl, ck_Ltake⟩
theorem ta_Lalike (X : K.In h) (G : h.Ns mainGlobals mg) (c : He.SaysD fa fn K) : TabAt K mg "_law_alike" f_Lalike := by
  obtain ⟨fd, F⟩ := c.defs (d := d_Lalike) (by simp [fn])
  exact ⟨_, fd, _, _, _, _, N_Lalike, ["_law_found", "_law_due"], He.glo_ok X G (c.facts (f := .glo "_law_alike") (by simp [fa])), F.bindsN fun _ _ _ _ _ _ us hl => match us, hl with | [_, _], _ => rfl, F, sc_Lalike, rfl, rfl, ck_Lalike⟩
theorem ta_Lshuffled (X : K.In h) (G : h.Ns mainGlobals mg) (c : He.SaysD fa fn K) : TabAt K mg "_law_shuffled" f_Lshuffled := by
  obtain ⟨fd, F⟩ := c.defs (d := d_Lshuffled) (by simp [fn])
  exact ⟨_, fd, _, _, _, _, N_Lshuffled, ["_law_box_here", "_law_many"], He.glo_ok X G (c.facts (f := .glo "_law_shuffled") (by simp [fa])), F.bindsN fun _ _ _ _ _ _ us hl => match us, hl with | [_, _], _ => rfl, F, sc_Lshuffled, rfl, rfl, ck_Lshuffled⟩
theorem ta_Lties (X : K.In h) (G : h.Ns mainGlobals mg) (c : He.SaysD fa fn K) : TabAt K mg "_law_ties" f_Lties := by
  obtain ⟨fd, F⟩ := c.defs (d := d_Lties) (by simp [fn])
  exact ⟨_, fd, _, _, _, _, N_Lties, ["_law_box_here", "_law_many", "_law_room"], He.glo_ok X G (c.facts (f := .glo "_law_ties") (by simp [fa])), F.bindsN fun _ _ _ _ _ _ us hl => match us, hl with | [_, _, _], _ => rfl, F, sc_Lties, rfl, rfl, ck_Lties⟩
theorem ta_Lmarks (X : K.In h) (G : h.Ns mainGlobals mg) (c : He.SaysD fa fn K) : TabAt K mg "_law_marks" f_Lmarks := by
  obtain ⟨fd, F⟩ := c.defs (d := d_Lmarks) (by simp [fn])
  exact ⟨_, fd, _, _, _, _, N_Lmarks, ["_law_box_here", "_law_many"], He.glo_ok X G (c.facts (f := .glo "_law_marks") (by simp [fa])), F.bindsN fun _ _ _ _ _ _ us hl => match us, hl with | [_, _], _ => rfl, F, sc_Lmarks, rfl, rfl, ck_Lmarks⟩
theorem ta_Lplain_web (X : K.In h) (G : h.Ns mainGlobals mg) (c : He.SaysD fa fn K) : TabAt K mg "_law_plain_web" f_Lplain_web := by
  obtain ⟨fd, F⟩ := c.defs (d := d_Lplain_web) (by simp [fn])
  exact ⟨_, fd, _, _, _, _, N_Lplain_web, ["_law_box_here", "_law_most", "_law_room"], He.glo_ok X G (c.facts (f := .glo "_law_plain_web") (by simp [fa])), F.bindsN fun _ _ _ _ _ _ us hl => match us, hl with | [_, _, _], _ => rfl, F, sc_Lplain_web, rfl, rfl, ck_Lplain_web⟩
theorem ta_Lrenamed (X : K.In h) (G : h.Ns mainGlobals mg) (c : He.SaysD fa fn K) : TabAt K mg "_law_renamed" f_Lrenamed := by
  obtain ⟨fd, F⟩ := c.defs (d := d_Lrenamed) (by simp [fn])
  exact ⟨_, fd, _, _, _, _, N_Lrenamed, ["_law_web_here", "_law_row"], He.glo_ok X G (c.facts (f := .glo "_law_renamed") (by simp [fa])), F.bindsN fun _ _ _ _ _ _ us hl => match us, hl with | [_, _], _ => rfl, F, sc_Lrenamed, rfl, rfl, ck_Lrenamed⟩
theorem ta_Lturnings (X : K.In h) (G : h.Ns mainGlobals mg) (c : He.SaysD fa fn K) : TabAt K mg "_law_turnings" f_Lturnings := by
  obtain ⟨fd, F⟩ := c.defs (d := d_Lturnings) (by simp [fn])
  exact ⟨_, fd, _, _, _, _, N_Lturnings, ["_law_box_here", "_law_web_here", "_law_sheets"], He.glo_ok X G (c.facts (f := .glo "_law_turnings") (by simp [fa])), F.bindsN fun _ _ _ _ _ _ us hl => match us, hl with | [_, _, _], _ => rfl, F, sc_Lturnings, rfl, rfl, ck_Lturnings⟩
theorem ta_Lcover (X : K.In h) (G : h.Ns mainGlobals mg) (c : He.SaysD fa fn K) : TabAt K mg "_law_cover" f_Lcover := by
  obtain ⟨fd, F⟩ := c.defs (d := d_Lcover) (by simp [fn])
  exact ⟨_, fd, _, _, _, _, N_Lcover, ["_law_box_here", "_law_web_here", "_law_sheets"], He.glo_ok X G (c.facts (f := .glo "_law_cover") (by simp [fa])), F.bindsN fun _ _ _ _ _ _ us hl => match us, hl with | [_, _, _], _ => rfl, F, sc_Lcover, rfl, rfl, ck_Lcover⟩
theorem ta_Lweb (X : K.In h) (G : h.Ns mainGlobals mg) (c : He.SaysD fa fn K) : TabAt K mg "_law_web" f_Lweb := by
  obtain ⟨fd, F⟩ := c.defs (d := d_Lweb) (by simp [fn])
  exact ⟨_, fd, _, _, _, _, N_Lweb, ["_law_box_here", "_law_most", "_law_room"], He.glo_ok X G (c.facts (f := .glo "_law_web") (by simp [fa])), F.bindsN fun _ _ _ _ _ _ us hl => match us, hl with | [_, _, _], _ => rfl, F, sc_Lweb, rfl, rfl, ck_Lweb⟩
theorem ta_Lthree (X : K.In h) (G : h.Ns mainGlobals mg) (c : He.SaysD fa fn K) : TabAt K mg "_law_three" f_Lthree := by
  obtain ⟨fd, F⟩ := c.defs (d := d_Lthree) (by simp [fn])
  exact ⟨_, fd, _, _, _, _, N_Lthree, ["_law_box_here"], He.glo_ok X G (c.facts (f := .glo "_law_three") (by simp [fa])), F.bindsN fun _ _ _ _ _ _ us hl => match us, hl with | [_], _ => rfl, F, sc_Lthree, rfl, rfl, ck_Lthree⟩
theorem ta_Lled_to_each (X : K.In h) (G : h.Ns mainGlobals mg) (c : He.SaysD fa fn K) : TabAt K mg "_law_led_to_each" f_Lled_to_each := by
  obtain ⟨fd, F⟩ := c.defs (d := d_Lled_to_each) (by simp [fn])
  exact ⟨_, fd, _, _, _, _, N_Lled_to_each, ["_law_row", "_law_many"], He.glo_ok X G (c.facts (f := .glo "_law_led_to_each") (by simp [fa])), F.bindsN fun _ _ _ _ _ _ us hl => match us, hl with | [_, _], _ => rfl, F, sc_Lled_to_each, rfl, rfl, ck_Lled_to_each⟩
theorem tab_at (X : K.In h) (G : h.Ns mainGlobals mg) (c : He.SaysD fa fn K) : ∀ x fd, tab.lookup x = some fd → TabAt K mg x fd := by
  have all : ∀ p ∈ tab, TabAt K mg p.1 p.2 := by
    unfold tab
    simp only [List.forall_mem_cons]
    exact ⟨ta_is_leading X G c, ta_led_from X G c, ta_leadings X G c, ta_followed X G c, ta_Lbox X G c, ta_Ltake X G c, ta_Lalike X G c, ta_Lshuffled X G c, ta_Lties X G c, ta_Lmarks X G c, ta_Lplain_web X G c, ta_Lrenamed X G c, ta_Lturnings X G c, ta_Lcover X G c, ta_Lweb X G c, ta_Lthree X G c, ta_Lled_to_each X G c, by simp⟩
  intro x fd hx
  exact all (x, fd) (lookup_mem hx)
theorem blt_at (X : K.In h) (G : h.Ns mainGlobals mg) (c : He.SaysD fa fn K) : ∀ x ∈ bltNames, mg x = none := fun x hx =>
  He.free_ok X G (c.facts (f := .free x) (List.mem_append_right _ (List.mem_map_of_mem hx)))
end
theorem facts {P : Program} {w : World} {K : PySem.W.Frag} {h : Heap} {mg : Str → Option Value} {f : Addr} (X : K.In h) (G : h.Ns mainGlobals mg) (hfa : mg ("law" : Str) = some (.ref f)) (c : He.SaysD fa fn K) :
    ∃ fd : FuncData, (∀ (s : Shared) (v : Value), BindsTo s fd ⟨[v], []⟩ [("_law_script", v)]) ∧ ∀ base : Heap, K.In base → base.Ns mainGlobals mg → FnOk P w K mg base CX0 (40 + 1) f fd ["_law_script"] (spLaw K (calN tab 40) f_law) := by
  obtain ⟨fd, F⟩ := c.defs (d := d_law) (by simp [fn])
  have e := hfa.symm.trans (He.glo_ok X G (c.facts (f := .glo "law") (by simp [fa])))
  cases e
  have b := FunD.bindsA (ps := ["_law_script"]) F fun _ _ _ _ _ _ us hl => match us, hl with | [_], _ => rfl
  exact ⟨fd, fun s v => b s [v] rfl, fun base _ _ => law_ok (tab_ok (blt_at X G c) (tab_at X G c) 40) F sc_law rfl ck_law⟩
end NH.K08
open PySem PySem.W PySem.Calls PyProof.Rows in
theorem NH.K08.holds_of (hlaw : ∀ ns : List Int, ns.length ≤ 63 → ∃ st', NH.runFd (NH.calN NH.K08.tab 40) NH.K08.f_law [.val (.klst (ns.map NH.D.int))] [] = .ok (.val (.bl true)) [] st') : PySem.Challenge.rw_namelesshall_k08_whole_one_leading_behin.Holds := by
  w_on; o_law
  refine HandSHeadRun.head_any (r := OpenLaw.row PySem.Challenge.rw_namelesshall_k08_whole_one_leading_behin) (q := view (OpenLaw.row PySem.Challenge.rw_namelesshall_k08_whole_one_leading_behin).prog [19]) (H := NH.K08.hk) (ob := NH.K08.ob) (M := 4000) (loose := ["is_leading", "led_from", "leadings", "followed", "_law_box", "_law_take", "_law_alike", "_law_shuffled", "_law_ties", "_law_marks", "_law_plain_web", "_law_renamed", "_law_turnings", "_law_cover", "_law_web", "_law_three", "_law_led_to_each"]) (d := HandSHeadRun.topDef (OpenLaw.row PySem.Challenge.rw_namelesshall_k08_whole_one_leading_behin).prog 19) (kwd := []) NH.K08.ob_eq
    (by kernel_rfl) (fun s => by kernel_rfl) NH.K08.run (by kernel_rfl) (by kernel_rfl) (by kernel_rfl) (by rfl) (by first | assumption | decide +kernel) (by decide +kernel) ⟨rfl, rfl, rfl, rfl, rfl, by decide +kernel⟩ ?hw ?hc
  case hw => w_witness2
  case hc =>
    refine L2.walk_ofE (l := PySem.Challenge.rw_namelesshall_k08_whole_one_leading_behin) (n := 63) (k := 40 + 1) (x := "_law_script") (CX := L2.CX0) rfl (by decide) (by kernel_rfl) ⟨rfl, by decide, by decide⟩ ?F (fun _ _ _ _ z => z)
    intro w mg fa h Y G hmg0
    obtain ⟨K, KX, c⟩ := Y
    have hmg : mg ("law" : PySem.Str) = some (.ref fa) := by
      have e : (HandSHeadRun.topDef (OpenLaw.row PySem.Challenge.rw_namelesshall_k08_whole_one_leading_behin).prog 19).name = ("law" : PySem.Str) := by kernel_rfl
      rw [← e]
      exact hmg0
    obtain ⟨fd, hb, hF⟩ := NH.K08.facts (P := (PySem.Challenge.rw_namelesshall_k08_whole_one_leading_behin).prog) (w := w) KX G hmg c
    exact ⟨K, fd, NH.spLaw K (NH.calN NH.K08.tab 40) NH.K08.f_law, KX, hb, fun H a ns hl _ hS => by
      obtain ⟨st', hr⟩ := hlaw ns hl
      exact ⟨a, ns, st', rfl, hS, hr, fun _ => rfl⟩, hF⟩

theorem PySem.Challenge.cw_namelesshall_k08_whole_one_leading_behin_holds : PySem.Challenge.rw_namelesshall_k08_whole_one_leading_behin.Holds := by
  exact NH.K08.holds_of NH.K08.law_run
