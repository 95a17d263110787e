import PyProof.Rows.All
import Wide.All
import OpenK.AllK
import Wide.FinOn
import HandS.ForMost
import HandS.Exc
import HandS.CallSlots
import HandS.Wide
import HandS.Star
import HandS.IsInst
import HandS.StrMore
import HandS.TupAny
import HandS.FStr
import HandS.Deep
import HandS.SetFor
import HandS.TupLe
import HandS.Iter
import HandS.Ends
import HandS.EndBits
import HandS.Defaults
import HandS.Head0
import HandS.Head1
import HandS.Head2
import HandS.HeadEnd
import HandS.HeadHook1
import HandS.HeadHook2
import HandS.Text
import KE.KIntText
import KE.IntTextText
import PySem.Challenge.RW_pactroads_k04_whole_rules_of_fractions
set_option Elab.async false
set_option linter.all false
set_option maxRecDepth 100000
set_option maxHeartbeats 1200000
/-! Values as trees, a monad of runs, and what it means that a run tells of a piece of the program. -/
namespace PM
open PySem PySem.Spec L2

inductive D where
  | non | bl (b : Bool) | int (i : Int) | str (s : Str)
  | tup (ds : List D) | lst (ds : List D) | lsF (ds : List D) | tpF (ds : List D)
  | dct (kvs : List (Key × D)) | dcT (kvs : List (List Key × D))
  | obj (n : Nat) | rcd (C : Addr) (fs : List (Str × D)) | val (v : V)

/-- a thing that may change -/
inductive Cell where
  | dead | ls (ds : List D) | dc (kvs : List (Key × D)) | dt (kvs : List (List Key × D)) | ins (C : Addr) (fs : List (Str × D))

def Cell.frz : Cell → D
  | .dead => .non
  | .ls ds => .lst ds
  | .dc kvs => .dct kvs
  | .dt kvs => .dcT kvs
  | .ins C fs => .rcd C fs

/-- a value that is shared, a new thing that nobody else holds, or the frame's own thing at a slot -/
inductive RV where
  | sh (d : D) | ow (c : Cell) | lo (i : Nat)
inductive Slot where
  | un | sh (d : D) | ow (c : Cell)
def Slot.own : Slot → Bool
  | .ow _ => true
  | _ => false

structure State where
  env : List Slot
  store : List Cell
structure Exc where
  cls : Value
  fs : Option (List (Str × D))
inductive Out (α : Type) where
  | ok (a : α) (st : State) | exc (c : Exc) (st : State) | stuck
def M (α : Type) := State → Out α
def M.pure {α : Type} (a : α) : M α := fun st => .ok a st
def M.bind {α β : Type} (m : M α) (f : α → M β) : M β := fun st => match m st with
  | .ok a st' => f a st'
  | .exc c st' => .exc c st'
  | .stuck => .stuck
instance : Monad M where
  pure := M.pure
  bind := M.bind
def M.stuck {α : Type} : M α := fun _ => .stuck
def M.ofO {α : Type} : Option α → M α
  | some a => M.pure a
  | none => M.stuck
/-- a slot's value, from now on shared -/
def mVar (i : Nat) : M D := fun st => match st.env[i]? with
  | some (.sh d) => .ok d st
  | some (.ow c) => .ok c.frz { st with env := st.env.set i (.sh c.frz) }
  | _ => .stuck
def RV.frz : RV → M D
  | .sh d => M.pure d
  | .ow c => M.pure c.frz
  | .lo i => mVar i
def M.frz (m : M RV) : M D := m.bind RV.frz
/-- what is new is shared, the frame's own is left as it is -/
def RV.bor : RV → RV
  | .ow c => .sh c.frz
  | r => r
def M.bor (m : M RV) : M RV := m.bind fun r => M.pure r.bor
/-- what a value looks like now -/
def view (st : State) : RV → Option D
  | .sh (.obj n) => match st.store[n]? with
    | some (.ls ds) => some (.lst ds)
    | some (.dc kvs) => some (.dct kvs)
    | some (.dt kvs) => some (.dcT kvs)
    | some (.ins _ _) => some (.obj n)
    | _ => none
  | .sh d => some d
  | .lo i => match st.env[i]? with
    | some (.sh d) => some d
    | some (.ow c) => some c.frz
    | _ => none
  | .ow _ => none
def mView (r : RV) : M D := fun st => match view st r with
  | some d => .ok d st
  | none => .stuck
def M.sh (m : M D) : M RV := m.bind fun d => M.pure (.sh d)

section
variable (K : PySem.W.Frag)
/-! ### what a value is the tree of -/
mutual
inductive Rv (φ : List Addr) (I : Hp) : D → V → Prop
  | non : Rv φ I .non .non
  | bl (b : Bool) : Rv φ I (.bl b) (.bl b)
  | int (i : Int) : Rv φ I (.int i) (.int i)
  | str (s : Str) : Rv φ I (.str s) (.str s)
  | tup {a : Addr} {vs : List V} {ds : List D} : I a = some (.tup vs) → Rvs φ I ds vs → Rv φ I (.tup ds) (.ref a)
  | tpF {a : Addr} {vs : List V} {ds : List D} : SqT K I a vs → Rvs φ I ds vs → Rv φ I (.tpF ds) (.ref a)
  | lst {a : Addr} {vs : List V} {ds : List D} : I a = some (.lst vs) → Rvs φ I ds vs → Rv φ I (.lst ds) (.ref a)
  | lsF {a : Addr} {vs : List V} {ds : List D} : SqL K I a vs → Rvs φ I ds vs → Rv φ I (.lsF ds) (.ref a)
  | dct {a : Addr} {us : List (Key × V)} {kvs : List (Key × D)} : Rd I a (.dK us) → us.map (·.1) = kvs.map (·.1) → Rvs φ I (kvs.map (·.2)) (us.map (·.2)) → Rv φ I (.dct kvs) (.ref a)
  | dcT {a : Addr} {us : List (List Key × V)} {kvs : List (List Key × D)} : Rd I a (.dT us) → us.map (·.1) = kvs.map (·.1) → Rvs φ I (kvs.map (·.2)) (us.map (·.2)) → Rv φ I (.dcT kvs) (.ref a)
  | obj {n : Nat} {a : Addr} : φ[n]? = some a → Rv φ I (.obj n) (.ref a)
  | rcd {C a dx : Addr} {us : List (Str × V)} {fs : List (Str × D)} : I a = some (.ins C dx us) → us.map (·.1) = fs.map (·.1) → Rvs φ I (fs.map (·.2)) (us.map (·.2)) → Rv φ I (.rcd C fs) (.ref a)
  | val (v : V) : Rv φ I (.val v) v
inductive Rvs (φ : List Addr) (I : Hp) : List D → List V → Prop
  | nil : Rvs φ I [] []
  | cons {d : D} {v : V} {ds : List D} {vs : List V} : Rv φ I d v → Rvs φ I ds vs → Rvs φ I (d :: ds) (v :: vs)
end

/-- H' has all that H has -/
abbrev Ex (H H' : Hp) : Prop := ∀ a o, H a = some o → H' a = some o

/-- a cell's content lies as o -/
inductive Ho (φ : List Addr) (I : Hp) : Cell → HO → Prop
  | ls {ds : List D} {vs : List V} : Rvs K φ I ds vs → Ho φ I (.ls ds) (.lst vs)
  | dc {kvs : List (Key × D)} {us : List (Key × V)} : us.map (·.1) = kvs.map (·.1) → Rvs K φ I (kvs.map (·.2)) (us.map (·.2)) → Ho φ I (.dc kvs) (.dK us)
  | dt {kvs : List (List Key × D)} {us : List (List Key × V)} : us.map (·.1) = kvs.map (·.1) → Rvs K φ I (kvs.map (·.2)) (us.map (·.2)) → Ho φ I (.dt kvs) (.dT us)
  | ins {C dx : Addr} {fs : List (Str × D)} {us : List (Str × V)} : us.map (·.1) = fs.map (·.1) → Rvs K φ I (fs.map (·.2)) (us.map (·.2)) → Ho φ I (.ins C fs) (.ins C dx us)
/-- the cell stands at a, and nothing that is shared leans on it -/
def CellAt (φ : List Addr) (I H : Hp) (a : Addr) (c : Cell) : Prop := ∃ o, H a = some o ∧ I a = none ∧ Ho K φ I c o
end

/-- the heap, the things and what is shared at a def's entry -/
structure Ent where
  H0 : Hp
  p0 : List Addr
  I0 : Hp

def Owns (env : List Slot) (σ : St) (i : Nat) (a : Addr) : Prop := ∃ c, env[i]? = some (Slot.ow c) ∧ σ[i]? = some (some (.ref a))

structure Rp (K : PySem.W.Frag) (E : Ent) (σ : St) (H : Hp) (st : State) (φ : List Addr) (I : Hp) : Prop where
  ext : Ex I H
  keep : ∀ a o, E.H0 a = some o → a ∉ E.p0 → H a = some o
  there : ∀ a, E.H0 a ≠ none → H a ≠ none
  inew : ∀ a, I a ≠ none → E.I0 a = none → E.H0 a = none ∨ a ∈ E.p0
  iold : Ex E.I0 I
  pre : ∃ more, φ = E.p0 ++ more
  pnew : ∀ a ∈ φ, a ∈ E.p0 ∨ E.H0 a = none
  nd : φ.Nodup
  len : φ.length = st.store.length
  cells : ∀ (i : Nat) c a, st.store[i]? = some c → φ[i]? = some a → c = .dead ∨ CellAt K φ I H a c
  pin : ∀ a ∈ φ, H a ≠ none
  elen : st.env.length = σ.length
  sh : ∀ (i : Nat) d, st.env[i]? = some (.sh d) → ∃ v, σ[i]? = some (some v) ∧ Rv K φ I d v
  ow : ∀ (i : Nat) c, st.env[i]? = some (.ow c) → ∃ a, σ[i]? = some (some (.ref a)) ∧ CellAt K φ I H a c ∧ a ∉ φ ∧ E.H0 a = none
  one : ∀ i j a, Owns st.env σ i a → Owns st.env σ j a → i = j

section
variable {K : PySem.W.Frag} {φ φ' : List Addr} {I I' H H' : Hp}
theorem pre_get {a : Addr} {n : Nat} (hp : φ <+: φ') (h : φ[n]? = some a) : φ'[n]? = some a := by
  obtain ⟨m, rfl⟩ := hp
  have hn : n < φ.length := (List.getElem?_eq_some_iff.mp h).1
  rw [List.getElem?_append_left hn]
  exact h
theorem Ex.refl (H : Hp) : Ex H H := fun _ _ h => h
theorem Ex.trans {A B C : Hp} (h : Ex A B) (k : Ex B C) : Ex A C := fun a o e => k a o (h a o e)
theorem rd_mono {a : Addr} {u : HO} (e : Ex I I') (h : Rd I a u) : Rd I' a u := h.elim (fun z => .inl (e _ _ z)) fun ⟨o, z⟩ => .inr ⟨o, e _ _ z⟩
theorem sqL_mono {a : Addr} {vs : List V} (e : Ex I I') (h : SqL K I a vs) : SqL K I' a vs := h.elim (fun z => .inl (rd_mono e z)) .inr
theorem sqT_mono {a : Addr} {vs : List V} (e : Ex I I') (h : SqT K I a vs) : SqT K I' a vs := h.elim (fun z => .inl (rd_mono e z)) .inr
theorem Rvs.mono' (hp : φ <+: φ') (e : Ex I I') {ds : List D} {vs : List V} (h : Rvs K φ I ds vs) (hm : ∀ d v, d ∈ ds → Rv K φ I d v → Rv K φ' I' d v) : Rvs K φ' I' ds vs := by
  induction ds generalizing vs with
  | nil => cases h; exact .nil
  | cons d ds ih =>
    cases h with
    | cons h1 h2 => exact .cons (hm _ _ (List.mem_cons_self ..) h1) (ih h2 fun d' v' m => hm d' v' (List.mem_cons_of_mem _ m))
theorem Rv.mono (hp : φ <+: φ') (e : Ex I I') {d : D} {v : V} (h : Rv K φ I d v) : Rv K φ' I' d v := by
  refine Rv.rec (motive_1 := fun d v _ => Rv K φ' I' d v) (motive_2 := fun ds vs _ => Rvs K φ' I' ds vs) .non .bl .int .str ?_ ?_ ?_ ?_ ?_ ?_ ?_ ?_ .val .nil ?_ h
  · intro a vs ds h1 _ h2
    exact .tup (e _ _ h1) h2
  · intro a vs ds h1 _ h2
    exact .tpF (sqT_mono e h1) h2
  · intro a vs ds h1 _ h2
    exact .lst (e _ _ h1) h2
  · intro a vs ds h1 _ h2
    exact .lsF (sqL_mono e h1) h2
  · intro a us kvs h1 h3 _ h2
    exact .dct (rd_mono e h1) h3 h2
  · intro a us kvs h1 h3 _ h2
    exact .dcT (rd_mono e h1) h3 h2
  · intro n a h1
    exact .obj (pre_get hp h1)
  · intro C a dx us fs h1 h3 _ h2
    exact .rcd (e _ _ h1) h3 h2
  · intro d v ds vs _ _ h1 h2
    exact .cons h1 h2
theorem Rvs.mono (hp : φ <+: φ') (e : Ex I I') {ds : List D} {vs : List V} (h : Rvs K φ I ds vs) : Rvs K φ' I' ds vs := h.mono' hp e fun _ _ _ z => z.mono hp e
theorem Rvs.len {ds : List D} {vs : List V} (h : Rvs K φ I ds vs) : ds.length = vs.length := by
  induction ds generalizing vs with
  | nil => cases h; rfl
  | cons d ds ih =>
    cases h with
    | cons h1 h2 => rw [List.length_cons, List.length_cons, ih h2]
theorem Rvs.get {ds : List D} {vs : List V} (h : Rvs K φ I ds vs) {i : Nat} {d : D} (e : ds[i]? = some d) : ∃ v, vs[i]? = some v ∧ Rv K φ I d v := by
  induction ds generalizing vs i with
  | nil => simp at e
  | cons d0 ds ih =>
    cases h with
    | cons h1 h2 =>
      cases i with
      | zero =>
        simp only [List.getElem?_cons_zero, Option.some.injEq] at e
        subst e
        exact ⟨_, rfl, h1⟩
      | succ i => exact ih h2 (by simpa using e)
theorem Rvs.append {ds es : List D} {vs us : List V} (h : Rvs K φ I ds vs) (k : Rvs K φ I es us) : Rvs K φ I (ds ++ es) (vs ++ us) := by
  induction ds generalizing vs with
  | nil => cases h; exact k
  | cons d ds ih =>
    cases h with
    | cons h1 h2 => exact .cons h1 (ih h2)
theorem Rvs.take {ds : List D} {vs : List V} (h : Rvs K φ I ds vs) (n : Nat) : Rvs K φ I (ds.take n) (vs.take n) := by
  induction ds generalizing vs n with
  | nil => cases h; simpa using Rvs.nil
  | cons d ds ih =>
    cases h with
    | cons h1 h2 =>
      cases n with
      | zero => exact .nil
      | succ n => exact .cons h1 (ih h2 n)
theorem Rvs.drop {ds : List D} {vs : List V} (h : Rvs K φ I ds vs) (n : Nat) : Rvs K φ I (ds.drop n) (vs.drop n) := by
  induction ds generalizing vs n with
  | nil => cases h; simpa using Rvs.nil
  | cons d ds ih =>
    cases h with
    | cons h1 h2 =>
      cases n with
      | zero => exact .cons h1 h2
      | succ n => exact ih h2 n
theorem Rvs.set {ds : List D} {vs : List V} (h : Rvs K φ I ds vs) (i : Nat) {d : D} {v : V} (r : Rv K φ I d v) : Rvs K φ I (ds.set i d) (vs.set i v) := by
  induction ds generalizing vs i with
  | nil => cases h; exact .nil
  | cons d ds ih =>
    cases h with
    | cons h1 h2 =>
      cases i with
      | zero => exact .cons r h2
      | succ n => exact .cons h1 (ih h2 n)
theorem Ho.mono (hp : φ <+: φ') (e : Ex I I') {c : Cell} {o : HO} (h : Ho K φ I c o) : Ho K φ' I' c o := by
  cases h with
  | ls h => exact .ls (h.mono hp e)
  | dc a h => exact .dc a (h.mono hp e)
  | dt a h => exact .dt a (h.mono hp e)
  | ins a h => exact .ins a (h.mono hp e)
end

/-! ### a step: from (H, st, φ, I) to (H', st', φ', I'), the frame's slots as they were -/
structure Stp (σ : St) (H : Hp) (st : State) (φ : List Addr) (I : Hp) (H' : Hp) (st' : State) (φ' : List Addr) (I' : Hp) : Prop where
  pf : φ <+: φ'
  nf : ∀ a ∈ φ', a ∉ φ → H a = none
  ii : Ex I I'
  fr : ∀ a o, H a = some o → a ∉ φ → (∀ i, ¬ Owns st.env σ i a) → H' a = some o
  there : ∀ a, H a ≠ none → H' a ≠ none
  inf : ∀ a, I' a ≠ none → I a = none → H a = none ∨ a ∈ φ ∨ ∃ i, Owns st.env σ i a
  ow : ∀ i a, Owns st'.env σ i a → Owns st.env σ i a
theorem Stp.refl {σ : St} {H : Hp} {st : State} {φ : List Addr} {I : Hp} : Stp σ H st φ I H st φ I :=
  ⟨List.prefix_rfl, fun _ h n => absurd h n, Ex.refl _, fun _ _ e _ _ => e, fun _ h => h, fun a h n => absurd n h, fun _ _ h => h⟩
theorem Stp.trans {σ : St} {H H1 H2 : Hp} {st st1 st2 : State} {φ p1 p2 : List Addr} {I I1 I2 : Hp} (a : Stp σ H st φ I H1 st1 p1 I1) (b : Stp σ H1 st1 p1 I1 H2 st2 p2 I2) : Stp σ H st φ I H2 st2 p2 I2 where
  pf := a.pf.trans b.pf
  nf := fun x hx hn => by
    by_cases h : x ∈ p1
    · exact a.nf x h hn
    · cases q : H x with
      | none => rfl
      | some o => exact absurd (b.nf x hx h) (a.there x (by rw [q]; simp))
  ii := a.ii.trans b.ii
  fr := fun x o e hn ho => by
    refine b.fr x o (a.fr x o e hn ho) (fun h => ?_) fun i h => ho i (a.ow i x h)
    have := a.nf x h hn
    rw [e] at this
    cases this
  there := fun x h => b.there x (a.there x h)
  inf := fun x h hn => by
    cases q : I1 x with
    | some o => exact a.inf x (by rw [q]; simp) hn
    | none =>
      rcases b.inf x h q with z | z | ⟨i, z⟩
      · left
        cases q : H x with
        | none => rfl
        | some o => exact absurd z (a.there x (by rw [q]; simp))
      · by_cases hm : x ∈ φ
        · exact .inr (.inl hm)
        · exact .inl (a.nf x z hm)
      · exact .inr (.inr ⟨i, a.ow i x z⟩)
  ow := fun i x h => a.ow i x (b.ow i x h)

/-- a run's value lies as v -/
def Rr (K : PySem.W.Frag) (E : Ent) (σ : St) (H : Hp) (st : State) (φ : List Addr) (I : Hp) : RV → V → Prop
  | .sh d, v => Rv K φ I d v
  | .ow c, v => ∃ a, v = .ref a ∧ CellAt K φ I H a c ∧ a ∉ φ ∧ E.H0 a = none ∧ ∀ i, ¬ Owns st.env σ i a
  | .lo i, v => σ[i]? = some (some v)
/-- a value as it stands now: shared, or a thing with its content -/
def Seen (K : PySem.W.Frag) (φ : List Addr) (I H : Hp) (d : D) (v : V) : Prop := Rv K φ I d v ∨ ∃ a c, v = .ref a ∧ d = c.frz ∧ CellAt K φ I H a c
/-- an exception's fields -/
def Rx (K : PySem.W.Frag) (φ : List Addr) (I H : Hp) : Option (List (Str × D)) → Option Addr → Prop
  | none, d => d = none
  | some fs, d => ∃ a us, d = some a ∧ H a = some (.xd us) ∧ us.map (·.1) = fs.map (·.1) ∧ Rvs K φ I (fs.map (·.2)) (us.map (·.2))

/-- a new thing, or the frame's own -/
def Nw (σ : L2.St) (H : Hp) (st : State) (r : RV) (v : V) : Prop := ∀ a c, r = .ow c → v = .ref a → H a = none
/-- what is wanted behind a run -/
def Po {α : Type} (K : PySem.W.Frag) (E : Ent) (W : WX) (σ : L2.St) (o : Out α) (H : Hp) (st : State) (φ : List Addr) (I : Hp) (k : α → Hp → State → List Addr → Hp → Prop) : Prop := match o with
  | .ok a st' => ∀ H' φ' I', Stp σ H st φ I H' st' φ' I' → Rp K E σ H' st' φ' I' → k a H' st' φ' I'
  | .exc c st' => ∀ d H' φ' I', Stp σ H st φ I H' st' φ' I' → Rp K E σ H' st' φ' I' → Rx K φ' I' H' c.fs d → W c.cls d σ H'
  | .stuck => False
/-- what a run tells of an expression, of a test, of arguments -/
def rdR (K : PySem.W.Frag) (E : Ent) (W : WX) (m : M RV) : TE := fun σ H Q => ∃ st φ I, Rp K E σ H st φ I ∧ Po K E W σ (m st) H st φ I fun r H' st' φ' I' => ∀ v, Rr K E σ H' st' φ' I' r v → Nw σ H st r v → Q v H'
def rdE (K : PySem.W.Frag) (E : Ent) (W : WX) (m : M D) : TE := fun σ H Q => ∃ st φ I, Rp K E σ H st φ I ∧ Po K E W σ (m st) H st φ I fun r H' st' φ' I' => ∀ v, Rv K φ' I' r v → Q v H'
def rdT (K : PySem.W.Frag) (E : Ent) (W : WX) (m : M Bool) : TT := fun σ H Q => ∃ st φ I, Rp K E σ H st φ I ∧ Po K E W σ (m st) H st φ I fun r H' st' φ' I' => Q r H'
def rdA (K : PySem.W.Frag) (E : Ent) (W : WX) (m : M (List D)) : TA := fun σ H Q => ∃ st φ I, Rp K E σ H st φ I ∧ Po K E W σ (m st) H st φ I fun r H' st' φ' I' => ∀ vs, Rvs K φ' I' r vs → Q vs H'
abbrev SR (X : Cx) (E : Ent) (W : WX) (e : Expr) (m : M RV) : Prop := PE X e (rdR X.K E W m)
abbrev SE (X : Cx) (E : Ent) (W : WX) (e : Expr) (m : M D) : Prop := PE X e (rdE X.K E W m)
abbrev ST (X : Cx) (E : Ent) (W : WX) (e : Expr) (m : M Bool) : Prop := PT X e (rdT X.K E W m)
abbrev SW (X : Cx) (E : Ent) (W : WX) (e : Expr) (m : M Bool) : Prop := PW X e (rdT X.K E W m)
abbrev SA (X : Cx) (E : Ent) (W : WX) (es : List Expr) (m : M (List D)) : Prop := PA X es (rdA X.K E W m)

inductive SOut where
  | nx (st : State) | rt (r : RV) (st : State) | bk (st : State) | ct (st : State) | exc (c : Exc) (st : State) | stuck
def MS := State → SOut
/-- the things and what is shared have grown -/
structure Grow (φ : List Addr) (I : Hp) (φ' : List Addr) (I' : Hp) : Prop where
  pf : φ <+: φ'
  ii : Ex I I'
def Ps (K : PySem.W.Frag) (E : Ent) (W : WX) (φ : List Addr) (I : Hp) (D : Ends) : SOut → Prop
  | .nx st' => ∀ σ' H' φ' I', Grow φ I φ' I' → Rp K E σ' H' st' φ' I' → D.nx σ' H'
  | .bk st' => ∀ σ' H' φ' I', Grow φ I φ' I' → Rp K E σ' H' st' φ' I' → D.bk σ' H'
  | .ct st' => ∀ σ' H' φ' I', Grow φ I φ' I' → Rp K E σ' H' st' φ' I' → D.ct σ' H'
  | .rt r st' => ∀ v σ' H' φ' I', Grow φ I φ' I' → Rp K E σ' H' st' φ' I' → Rr K E σ' H' st' φ' I' r v → D.rt v H'
  | .exc c st' => ∀ d σ' H' φ' I', Grow φ I φ' I' → Rp K E σ' H' st' φ' I' → Rx K φ' I' H' c.fs d → W c.cls d σ' H'
  | .stuck => False
def rdS (K : PySem.W.Frag) (E : Ent) (W : WX) (m : MS) : TS := fun D σ H => ∃ st φ I, Rp K E σ H st φ I ∧ Ps K E W φ I D (m st)
abbrev SS (X : Cx) (E : Ent) (W : WX) (st : Stmt) (m : MS) : Prop := PS X st (rdS X.K E W m)
abbrev SSs (X : Cx) (E : Ent) (W : WX) (st : List Stmt) (m : MS) : Prop := PSs X st (rdS X.K E W m)
end PM

set_option Elab.async false
set_option linter.all false
set_option maxRecDepth 100000
set_option maxHeartbeats 1200000
namespace PM
open PySem PySem.Spec L2

/-! ### weaker readings -/
section
variable {X : Cx}
theorem PEi {e : Expr} {t t' : TE} (h : PE X e t) (k : ∀ σ H Q, t' σ H Q → t σ H Q) : PE X e t' := ⟨fun p s σ H Q I q => h.run p s σ H Q I (k _ _ _ q)⟩
theorem PTi {e : Expr} {t t' : TT} (h : PT X e t) (k : ∀ σ H Q, t' σ H Q → t σ H Q) : PT X e t' := ⟨fun p s σ H Q I q => h.run p s σ H Q I (k _ _ _ q)⟩
theorem PWi {e : Expr} {t t' : TT} (h : PW X e t) (k : ∀ σ H Q, t' σ H Q → t σ H Q) : PW X e t' := ⟨fun w p s σ H Q I q => h.run w p s σ H Q I (k _ _ _ q)⟩
theorem PAi {e : List Expr} {t t' : TA} (h : PA X e t) (k : ∀ σ H Q, t' σ H Q → t σ H Q) : PA X e t' := ⟨fun pos p s σ H Q I q => h.run pos p s σ H Q I (k _ _ _ q)⟩
theorem PSi {e : Stmt} {t t' : TS} (h : PS X e t) (k : ∀ D σ H, t' D σ H → t D σ H) : PS X e t' := ⟨fun p s σ H Q I q => h.run p s σ H Q I (k _ _ _ q)⟩
theorem PSsi {e : List Stmt} {t t' : TS} (h : PSs X e t) (k : ∀ D σ H, t' D σ H → t D σ H) : PSs X e t' := ⟨fun p s σ H Q I q => h.run p s σ H Q I (k _ _ _ q)⟩
end

section
variable {K : PySem.W.Frag} {E : Ent} {σ : L2.St} {H : Hp} {st : State} {φ : List Addr} {I : Hp}
theorem ex_upd {J : Hp} {a : Addr} {o : HO} (h : J a = none) : Ex J (upd J a o) := fun b u e => by
  rw [upd_ne (ne_of_none e h)]
  exact e
theorem ex_upd2 {J J' : Hp} {a : Addr} {o : HO} (e : Ex J J') : Ex (upd J a o) (upd J' a o) := fun b u q => by
  by_cases hb : b = a
  · subst hb
    rw [upd_same] at q ⊢
    exact q
  · rw [upd_ne hb] at q ⊢
    exact e b u q
theorem Rp.fresh (R : Rp K E σ H st φ I) {p : Addr} (hp : H p = none) : E.H0 p = none ∧ p ∉ φ ∧ I p = none ∧ ∀ i, ¬ Owns st.env σ i p := by
  refine ⟨?_, fun h => R.pin p h hp, ?_, ?_⟩
  · cases q : E.H0 p with
    | none => rfl
    | some o => exact absurd hp (R.there p (by rw [q]; simp))
  · cases q : I p with
    | none => rfl
    | some o =>
      have := R.ext p o q
      rw [hp] at this
      cases this
  · rintro i ⟨c, h1, h2⟩
    obtain ⟨a, h3, ⟨o, h4, _⟩, _⟩ := R.ow i c h1
    rw [h2] at h3
    cases h3
    rw [hp] at h4
    cases h4
theorem Rp.ownH (R : Rp K E σ H st φ I) {i : Nat} {a : Addr} (h : Owns st.env σ i a) : ∃ c, st.env[i]? = some (.ow c) ∧ σ[i]? = some (some (.ref a)) ∧ CellAt K φ I H a c ∧ a ∉ φ ∧ E.H0 a = none := by
  obtain ⟨c, h1, h2⟩ := h
  obtain ⟨b, h3, h4, h5, h6⟩ := R.ow i c h1
  rw [h2] at h3
  cases h3
  exact ⟨c, h1, h2, h4, h5, h6⟩
theorem CellAt.mono {I' H' : Hp} {φ' : List Addr} {a : Addr} {c : Cell} (h : CellAt K φ I H a c) (hp : φ <+: φ') (e : Ex I I') (hn : I' a = none) (hH : ∀ o, H a = some o → H' a = some o) : CellAt K φ' I' H' a c := by
  obtain ⟨o, h1, _, h3⟩ := h
  exact ⟨o, hH o h1, hn, h3.mono hp e⟩

/-- a new thing p is laid; it is shared -/
theorem Rp.laidS (R : Rp K E σ H st φ I) {p : Addr} (hp : H p = none) (o : HO) : Rp K E σ (upd H p o) st φ (upd I p o) ∧ Stp σ H st φ I (upd H p o) st φ (upd I p o) := by
  obtain ⟨h0, hφ, hI, ho⟩ := R.fresh hp
  have eH : Ex H (upd H p o) := ex_upd hp
  have eI : Ex I (upd I p o) := ex_upd hI
  refine ⟨⟨ex_upd2 R.ext, fun a u e n => eH _ _ (R.keep a u e n), fun a h => ?_, fun a h n => ?_, fun a u e => eI _ _ (R.iold a u e), R.pre, R.pnew, R.nd, R.len, fun i c a h1 h2 => ?_, fun a h => ?_, R.elen, fun i d h => ?_, fun i c h => ?_, R.one⟩, ?_⟩
  · by_cases hb : a = p
    · rw [hb, upd_same]; simp
    · rw [upd_ne hb]; exact R.there a h
  · by_cases hb : a = p
    · rw [hb]; exact .inl h0
    · rw [upd_ne hb] at h; exact R.inew a h n
  · rcases R.cells i c a h1 h2 with z | z
    · exact .inl z
    · have hb : a ≠ p := fun e => hφ (e ▸ List.mem_of_getElem? h2)
      refine .inr (z.mono List.prefix_rfl eI ?_ fun u e => eH _ _ e)
      rw [upd_ne hb]; exact z.choose_spec.2.1
  · by_cases hb : a = p
    · rw [hb, upd_same]; simp
    · rw [upd_ne hb]; exact R.pin a h
  · obtain ⟨v, h1, h2⟩ := R.sh i d h
    exact ⟨v, h1, h2.mono List.prefix_rfl eI⟩
  · obtain ⟨a, h1, h2, h3, h4⟩ := R.ow i c h
    have hb : a ≠ p := fun e => ho i ⟨c, h, e ▸ h1⟩
    refine ⟨a, h1, h2.mono List.prefix_rfl eI ?_ fun u e => eH _ _ e, h3, h4⟩
    rw [upd_ne hb]; exact h2.choose_spec.2.1
  · refine ⟨List.prefix_rfl, fun _ h n => absurd h n, eI, fun a u e _ _ => eH _ _ e, fun a h => ?_, fun a h n => ?_, fun _ _ h => h⟩
    · by_cases hb : a = p
      · rw [hb, upd_same]; simp
      · rw [upd_ne hb]; exact h
    · by_cases hb : a = p
      · rw [hb]; exact .inl hp
      · rw [upd_ne hb] at h; exact absurd n h

/-- a new thing p is laid; nobody shares it -/
theorem Rp.laidO (R : Rp K E σ H st φ I) {p : Addr} (hp : H p = none) (o : HO) : Rp K E σ (upd H p o) st φ I ∧ Stp σ H st φ I (upd H p o) st φ I := by
  obtain ⟨h0, hφ, hI, ho⟩ := R.fresh hp
  have eH : Ex H (upd H p o) := ex_upd hp
  refine ⟨⟨R.ext.trans eH, fun a u e n => eH _ _ (R.keep a u e n), fun a h => ?_, R.inew, R.iold, R.pre, R.pnew, R.nd, R.len, fun i c a h1 h2 => ?_, fun a h => ?_, R.elen, R.sh, fun i c h => ?_, R.one⟩, ?_⟩
  · by_cases hb : a = p
    · rw [hb, upd_same]; simp
    · rw [upd_ne hb]; exact R.there a h
  · rcases R.cells i c a h1 h2 with z | z
    · exact .inl z
    · exact .inr (z.mono List.prefix_rfl (Ex.refl _) z.choose_spec.2.1 fun u e => eH _ _ e)
  · by_cases hb : a = p
    · rw [hb, upd_same]; simp
    · rw [upd_ne hb]; exact R.pin a h
  · obtain ⟨a, h1, h2, h3, h4⟩ := R.ow i c h
    exact ⟨a, h1, h2.mono List.prefix_rfl (Ex.refl _) h2.choose_spec.2.1 fun u e => eH _ _ e, h3, h4⟩
  · refine ⟨List.prefix_rfl, fun _ h n => absurd h n, Ex.refl _, fun a u e _ _ => eH _ _ e, fun a h => ?_, fun a h n => absurd n h, fun _ _ h => h⟩
    by_cases hb : a = p
    · rw [hb, upd_same]; simp
    · rw [upd_ne hb]; exact h

theorem Ho.frz {a : Addr} {c : Cell} {o : HO} (h : Ho K φ I c o) (e : I a = some o) : Rv K φ I c.frz (.ref a) := by
  cases h with
  | ls h => exact .lst e h
  | dc k h => exact .dct (.inl e) k h
  | dt k h => exact .dcT (.inl e) k h
  | ins k h => exact .rcd e k h

/-- what is nobody's becomes shared -/
theorem Rp.share (R : Rp K E σ H st φ I) {a : Addr} {c : Cell} (hc : CellAt K φ I H a c) (hφ : a ∉ φ) (h0 : E.H0 a = none) (ho : ∀ i, ¬ Owns st.env σ i a) :
    ∃ I', Rp K E σ H st φ I' ∧ Ex I I' ∧ Rv K φ I' c.frz (.ref a) ∧ ∀ b, b ≠ a → I' b = I b := by
  obtain ⟨o, e1, e2, e3⟩ := hc
  have eI : Ex I (upd I a o) := ex_upd e2
  refine ⟨upd I a o, ⟨fun b u e => ?_, R.keep, R.there, fun b h n => ?_, fun b u e => eI _ _ (R.iold b u e), R.pre, R.pnew, R.nd, R.len, fun i c' b h1 h2 => ?_, R.pin, R.elen, fun i d h => ?_, fun i c' h => ?_, R.one⟩, eI, ?_, fun b hb => upd_ne hb⟩
  · by_cases hb : b = a
    · subst hb
      rw [upd_same] at e
      cases e
      exact e1
    · rw [upd_ne hb] at e; exact R.ext b u e
  · by_cases hb : b = a
    · rw [hb]; exact .inl h0
    · rw [upd_ne hb] at h; exact R.inew b h n
  · rcases R.cells i c' b h1 h2 with z | z
    · exact .inl z
    · have hb : b ≠ a := fun e => hφ (e ▸ List.mem_of_getElem? h2)
      refine .inr (z.mono List.prefix_rfl eI ?_ fun u e => e)
      rw [upd_ne hb]; exact z.choose_spec.2.1
  · obtain ⟨v, h1, h2⟩ := R.sh i d h
    exact ⟨v, h1, h2.mono List.prefix_rfl eI⟩
  · obtain ⟨b, h1, h2, h3, h4⟩ := R.ow i c' h
    have hb : b ≠ a := fun e => ho i ⟨c', h, e ▸ h1⟩
    refine ⟨b, h1, h2.mono List.prefix_rfl eI ?_ fun u e => e, h3, h4⟩
    rw [upd_ne hb]; exact h2.choose_spec.2.1
  · exact (e3.mono List.prefix_rfl eI).frz (by rw [upd_same])

/-- a run's value, shared -/
theorem Rp.shareR (R : Rp K E σ H st φ I) {H0 I0 : Hp} {st0 : State} {p0 : List Addr} (S : Stp σ H0 st0 p0 I0 H st φ I) {c : Cell} {v : V} (h : Rr K E σ H st φ I (.ow c) v) (hf : Nw σ H0 st0 (.ow c) v) :
    ∃ I', Rp K E σ H st φ I' ∧ Stp σ H0 st0 p0 I0 H st φ I' ∧ Rv K φ I' c.frz v := by
  · obtain ⟨a, rfl, h1, h2, h3, h4⟩ := h
    obtain ⟨I', R', e, hv, hb⟩ := R.share h1 h2 h3 h4
    refine ⟨I', R', ⟨S.pf, S.nf, S.ii.trans e, S.fr, S.there, fun b h n => ?_, S.ow⟩, hv⟩
    by_cases q : b = a
    · subst q
      exact .inl (hf b c rfl rfl)
    · rw [hb b q] at h
      exact S.inf b h n

/-- a slot of the frame's own becomes shared -/
theorem Rp.frzSlot (R : Rp K E σ H st φ I) {i : Nat} {c : Cell} (h : st.env[i]? = some (.ow c)) :
    ∃ I' v, σ[i]? = some (some v) ∧ Rp K E σ H { st with env := st.env.set i (.sh c.frz) } φ I' ∧ Stp σ H st φ I H { st with env := st.env.set i (.sh c.frz) } φ I' ∧ Rv K φ I' c.frz v := by
  obtain ⟨a, h1, h2, h3, h4⟩ := R.ow i c h
  have hi : i < st.env.length := (List.getElem?_eq_some_iff.mp h).1
  have sub : ∀ j b, Owns (st.env.set i (.sh c.frz)) σ j b → Owns st.env σ j b ∧ j ≠ i := by
    rintro j b ⟨c', q1, q2⟩
    have hj : j ≠ i := by
      intro e
      subst e
      rw [List.getElem?_set_self hi] at q1
      cases q1
    rw [List.getElem?_set_ne (Ne.symm hj)] at q1
    exact ⟨⟨c', q1, q2⟩, hj⟩
  have R1 : Rp K E σ H { st with env := st.env.set i .un } φ I := ⟨R.ext, R.keep, R.there, R.inew, R.iold, R.pre, R.pnew, R.nd, R.len, R.cells, R.pin, by
      show (st.env.set i .un).length = _
      rw [List.length_set]
      exact R.elen, fun j d q => by
      by_cases hj : j = i
      · subst hj
        rw [show ({ st with env := st.env.set j .un } : State).env[j]? = some .un from List.getElem?_set_self hi] at q
        cases q
      · exact R.sh j d (by rw [← q]; exact (List.getElem?_set_ne (Ne.symm hj)).symm), fun j d q => by
      by_cases hj : j = i
      · subst hj
        rw [show ({ st with env := st.env.set j .un } : State).env[j]? = some .un from List.getElem?_set_self hi] at q
        cases q
      · exact R.ow j d (by rw [← q]; exact (List.getElem?_set_ne (Ne.symm hj)).symm), fun j k b q1 q2 => by
      have up : ∀ j b, Owns (st.env.set i .un) σ j b → Owns st.env σ j b := by
        rintro j b ⟨c', q1, q2⟩
        have hj : j ≠ i := by
          intro e
          subst e
          rw [List.getElem?_set_self hi] at q1
          cases q1
        rw [List.getElem?_set_ne (Ne.symm hj)] at q1
        exact ⟨c', q1, q2⟩
      exact R.one j k b (up _ _ q1) (up _ _ q2)⟩
  have no : ∀ j, ¬ Owns (st.env.set i .un) σ j a := by
    rintro j ⟨c', q1, q2⟩
    have hj : j ≠ i := by
      intro e
      subst e
      rw [List.getElem?_set_self hi] at q1
      cases q1
    rw [List.getElem?_set_ne (Ne.symm hj)] at q1
    exact hj (R.one j i a ⟨c', q1, q2⟩ ⟨c, h, h1⟩)
  obtain ⟨I', R2, e, hv, hb⟩ := R1.share h2 h3 h4 no
  refine ⟨I', .ref a, h1, ⟨R2.ext, R2.keep, R2.there, R2.inew, R2.iold, R2.pre, R2.pnew, R2.nd, R2.len, R2.cells, R2.pin, by
      show (st.env.set i _).length = _
      rw [List.length_set]
      exact R.elen, fun j d q => ?_, fun j d q => ?_, fun j k b q1 q2 => R.one j k b (sub _ _ q1).1 (sub _ _ q2).1⟩, ⟨List.prefix_rfl, fun _ h n => absurd h n, e, fun _ _ z _ _ => z, fun _ z => z, fun b z n => ?_, fun j b q => (sub j b q).1⟩, hv⟩
  · by_cases hj : j = i
    · subst hj
      rw [show ({ st with env := st.env.set j (.sh c.frz) } : State).env[j]? = some (.sh c.frz) from List.getElem?_set_self hi] at q
      cases q
      exact ⟨_, h1, hv⟩
    · exact R2.sh j d (by rw [← q]; exact (List.getElem?_set_ne (Ne.symm hj)).trans (List.getElem?_set_ne (Ne.symm hj)).symm)
  · by_cases hj : j = i
    · subst hj
      rw [show ({ st with env := st.env.set j (.sh c.frz) } : State).env[j]? = some (.sh c.frz) from List.getElem?_set_self hi] at q
      cases q
    · exact R2.ow j d (by rw [← q]; exact (List.getElem?_set_ne (Ne.symm hj)).trans (List.getElem?_set_ne (Ne.symm hj)).symm)
  · by_cases hb' : b = a
    · subst hb'
      exact .inr (.inr ⟨i, c, h, h1⟩)
    · rw [hb b hb'] at z
      exact absurd n z

def RV.slot : RV → Slot
  | .sh d => .sh d
  | .ow c => .ow c
  | .lo _ => .un
/-- a name gets a value -/
theorem Rp.setR (R : Rp K E σ H st φ I) {i : Nat} {r : RV} {v : V} (hr : Rr K E σ H st φ I r v) : Rp K E (σ.set i (some v)) H { st with env := st.env.set i r.slot } φ I := by
  have up : ∀ j b, Owns (st.env.set i r.slot) (σ.set i (some v)) j b → j ≠ i → Owns st.env σ j b := by
    rintro j b ⟨c', q1, q2⟩ hj
    rw [List.getElem?_set_ne (Ne.symm hj)] at q1 q2
    exact ⟨c', q1, q2⟩
  have self : ∀ b, Owns (st.env.set i r.slot) (σ.set i (some v)) i b → v = .ref b ∧ ∃ c, r = .ow c := by
    rintro b ⟨c', q1, q2⟩
    have hi : i < st.env.length := by
      have := (List.getElem?_eq_some_iff.mp q1).1
      rwa [List.length_set] at this
    rw [List.getElem?_set_self hi] at q1
    rw [List.getElem?_set_self (by rw [← R.elen]; exact hi)] at q2
    refine ⟨by simpa using q2, ?_⟩
    cases r with
    | sh d => cases q1
    | ow c => exact ⟨c, rfl⟩
    | lo i => cases q1
  have own : ∀ a c, r = .ow c → v = .ref a → ∀ j, ¬ Owns st.env σ j a := by
    rintro a c rfl rfl
    obtain ⟨a', e, _, _, _, h⟩ := hr
    cases e
    exact h
  refine ⟨R.ext, R.keep, R.there, R.inew, R.iold, R.pre, R.pnew, R.nd, R.len, R.cells, R.pin, ?_, fun j d q => ?_, fun j d q => ?_, fun j k b q1 q2 => ?_⟩
  · show (st.env.set i _).length = _
    rw [List.length_set, List.length_set]
    exact R.elen
  · replace q : (st.env.set i r.slot)[j]? = some (Slot.sh d) := q
    by_cases hj : j = i
    · subst hj
      have hi : j < st.env.length := by
        have := (List.getElem?_eq_some_iff.mp q).1
        rwa [List.length_set] at this
      rw [List.getElem?_set_self hi] at q
      cases r with
      | sh d' =>
        cases q
        exact ⟨v, List.getElem?_set_self (by rw [← R.elen]; exact hi), hr⟩
      | ow c => cases q
      | lo i => cases q
    · rw [List.getElem?_set_ne (Ne.symm hj)] at q ⊢
      exact R.sh j d q
  · replace q : (st.env.set i r.slot)[j]? = some (Slot.ow d) := q
    by_cases hj : j = i
    · subst hj
      have hi : j < st.env.length := by
        have := (List.getElem?_eq_some_iff.mp q).1
        rwa [List.length_set] at this
      rw [List.getElem?_set_self hi] at q
      cases r with
      | sh d' => cases q
      | lo i => cases q
      | ow c =>
        cases q
        obtain ⟨a, rfl, h1, h2, h3, _⟩ := hr
        exact ⟨a, List.getElem?_set_self (by rw [← R.elen]; exact hi), h1, h2, h3⟩
    · rw [List.getElem?_set_ne (Ne.symm hj)] at q ⊢
      exact R.ow j d q
  · by_cases hj : j = i
    · subst hj
      by_cases hk : k = j
      · exact hk.symm
      · obtain ⟨e1, c, e2⟩ := self b q1
        exact absurd (up k b q2 hk) (own b c e2 e1 k)
    · by_cases hk : k = i
      · subst hk
        obtain ⟨e1, c, e2⟩ := self b q2
        exact absurd (up j b q1 hj) (own b c e2 e1 j)
      · exact R.one j k b (up j b q1 hj) (up k b q2 hk)
end

/-! ### one run behind another -/
section
variable {K : PySem.W.Frag} {E : Ent} {W : WX} {σ : L2.St} {H : Hp} {st : State} {φ : List Addr} {I : Hp} {α β : Type}
theorem Po.imp {o : Out α} {k k' : α → Hp → State → List Addr → Hp → Prop} (h : Po K E W σ o H st φ I k) (hk : ∀ a H' st' φ' I', Stp σ H st φ I H' st' φ' I' → Rp K E σ H' st' φ' I' → k a H' st' φ' I' → k' a H' st' φ' I') : Po K E W σ o H st φ I k' := by
  cases o with
  | ok a st' => exact fun H' φ' I' S R => hk _ _ _ _ _ S R (h H' φ' I' S R)
  | exc c st' => exact h
  | stuck => exact h
theorem Po.bind {m : M α} {f : α → M β} {k : β → Hp → State → List Addr → Hp → Prop} (h : Po K E W σ (m.bind f st) H st φ I k) :
    Po K E W σ (m st) H st φ I fun a H1 st1 φ1 I1 => Po K E W σ (f a st1) H1 st1 φ1 I1 k := by
  unfold M.bind at h
  cases e : m st with
  | ok a st1 =>
    rw [e] at h
    simp only at h
    intro H1 φ1 I1 S1 R1
    cases e2 : f a st1 with
    | ok b st2 =>
      rw [e2] at h
      exact fun H2 φ2 I2 S2 R2 => h H2 φ2 I2 (S1.trans S2) R2
    | exc c st2 =>
      rw [e2] at h
      exact fun d H2 φ2 I2 S2 R2 => h d H2 φ2 I2 (S1.trans S2) R2
    | stuck => rw [e2] at h; exact h
  | exc c st1 => rw [e] at h; exact h
  | stuck => rw [e] at h; exact h
theorem Po.pure {a : α} {k : α → Hp → State → List Addr → Hp → Prop} (h : Po K E W σ (M.pure a st) H st φ I k) (R : Rp K E σ H st φ I) : k a H st φ I := h H φ I Stp.refl R
theorem Po.ofO {o : Option α} {k : α → Hp → State → List Addr → Hp → Prop} (h : Po K E W σ (M.ofO o st) H st φ I k) : ∃ a, o = some a ∧ ∀ H' φ' I', Stp σ H st φ I H' st φ' I' → Rp K E σ H' st φ' I' → k a H' st φ' I' := by
  cases o with
  | none => exact h.elim
  | some a => exact ⟨a, rfl, h⟩
theorem Nw.back {H1 : Hp} {st1 : State} {φ1 : List Addr} {I1 : Hp} {r : RV} {v : V} (S : Stp σ H st φ I H1 st1 φ1 I1) (h : Nw σ H1 st1 r v) : Nw σ H st r v := fun a c e1 e2 => by
  have z := h a c e1 e2
  cases q : H a with
  | none => rfl
  | some o => exact absurd z (S.there a (by rw [q]; simp))
theorem Nw.sh {d : D} {v : V} : Nw σ H st (.sh d) v := fun _ _ e => by cases e
end
/-- a slot's value, shared -/
theorem Rp.var {K : PySem.W.Frag} {E : Ent} {W : WX} {σ : L2.St} {H : Hp} {st : State} {φ : List Addr} {I : Hp} (R : Rp K E σ H st φ I) {i : Nat} {k : D → Hp → State → List Addr → Hp → Prop} (p : Po K E W σ (mVar i st) H st φ I k) :
    ∃ v d st' I', σ[i]? = some (some v) ∧ Stp σ H st φ I H st' φ I' ∧ Rp K E σ H st' φ I' ∧ Rv K φ I' d v ∧ k d H st' φ I' := by
  unfold mVar at p
  cases e : st.env[i]? with
  | none => rw [e] at p; exact p.elim
  | some s =>
    rw [e] at p
    cases s with
    | un => exact p.elim
    | sh d =>
      obtain ⟨v, h1, h2⟩ := R.sh i d e
      exact ⟨v, d, st, I, h1, Stp.refl, R, h2, p H φ I Stp.refl R⟩
    | ow c =>
      obtain ⟨I', v, h1, R', S', h2⟩ := R.frzSlot e
      exact ⟨v, _, _, I', h1, S', R', h2, p H φ I' S' R'⟩
/-- a new thing's value may be shared at once -/
theorem se_frz {X : Cx} {E : Ent} {W : WX} {e : Expr} {m : M RV} (h : SR X E W e m) : SE X E W e m.frz := PEi h fun σ H Q ⟨st, φ, I, R, p⟩ => by
  refine ⟨st, φ, I, R, ?_⟩
  unfold M.frz M.bind at p
  cases e : m st with
  | ok r st1 =>
    rw [e] at p
    intro H1 φ1 I1 S1 R1 v hr hn
    cases r with
    | sh d => exact p H1 φ1 I1 S1 R1 v hr
    | ow c =>
      obtain ⟨I2, R2, S2, hv⟩ := R1.shareR S1 hr hn
      exact p H1 φ1 I2 S2 R2 v hv
    | lo i =>
      have p' : Po X.K E W σ (mVar i st1) H1 st1 φ1 I1 fun d H' st' φ' I' => ∀ v, Rv X.K φ' I' d v → Q v H' := by
        simp only [RV.frz] at p
        cases e2 : mVar i st1 with
        | ok d st2 =>
          rw [e2] at p
          exact fun H2 φ2 I2 S2 R2 => p H2 φ2 I2 (S1.trans S2) R2
        | exc c st2 =>
          rw [e2] at p
          exact fun d H2 φ2 I2 S2 R2 => p d H2 φ2 I2 (S1.trans S2) R2
        | stuck => rw [e2] at p; exact p
      obtain ⟨v', d, st', I', h1, S', R', h2, q⟩ := R1.var p'
      have hr' : σ[i]? = some (some v) := hr
      rw [hr'] at h1
      cases h1
      exact q v h2
  | exc c st1 => rw [e] at p; exact p
  | stuck => rw [e] at p; exact p
theorem sr_sh {X : Cx} {E : Ent} {W : WX} {e : Expr} {m : M D} (h : SE X E W e m) : SR X E W e m.sh := PEi h fun σ H Q ⟨st, φ, I, R, p⟩ => by
  refine ⟨st, φ, I, R, ?_⟩
  unfold M.sh M.bind at p
  cases e : m st with
  | ok r st1 =>
    rw [e] at p
    exact fun H1 φ1 I1 S1 R1 v hr => p H1 φ1 I1 S1 R1 v hr Nw.sh
  | exc c st1 => rw [e] at p; exact p
  | stuck => rw [e] at p; exact p
/-- what is new shared, the frame's own left -/
theorem sr_bor {X : Cx} {E : Ent} {W : WX} {e : Expr} {m : M RV} (h : SR X E W e m) : SR X E W e m.bor := PEi h fun σ H Q ⟨st, φ, I, R, p⟩ => by
  refine ⟨st, φ, I, R, ?_⟩
  unfold M.bor M.bind at p
  cases e : m st with
  | ok r st1 =>
    rw [e] at p
    intro H1 φ1 I1 S1 R1 v hr hn
    cases r with
    | sh d => exact p H1 φ1 I1 S1 R1 v hr hn
    | lo i => exact p H1 φ1 I1 S1 R1 v hr hn
    | ow c =>
      obtain ⟨I2, R2, S2, hv⟩ := R1.shareR S1 hr hn
      exact p H1 φ1 I2 S2 R2 v hv Nw.sh
  | exc c st1 => rw [e] at p; exact p
  | stuck => rw [e] at p; exact p
/-- a value seen later -/
theorem Rr.seen {K : PySem.W.Frag} {E : Ent} {σ : L2.St} {H H' : Hp} {st st' : State} {φ φ' : List Addr} {I I' : Hp} {r : RV} {v : V} {d : D} (hr : Rr K E σ H st φ I r v) (S : Stp σ H st φ I H' st' φ' I') (R : Rp K E σ H' st' φ' I') (hd : view st' r = some d) : Seen K φ' I' H' d v := by
  cases r with
  | ow c => cases hd
  | lo i =>
    simp only [view] at hd
    have hs : σ[i]? = some (some v) := hr
    cases e : st'.env[i]? with
    | none => rw [e] at hd; cases hd
    | some s =>
      rw [e] at hd
      cases s with
      | un => cases hd
      | sh d' =>
        cases hd
        obtain ⟨u, h1, h2⟩ := R.sh i d e
        rw [hs] at h1
        cases h1
        exact .inl h2
      | ow c =>
        cases hd
        obtain ⟨a, h1, h2, _⟩ := R.ow i c e
        rw [hs] at h1
        cases h1
        exact .inr ⟨a, c, rfl, rfl, h2⟩
  | sh d0 =>
    have hv : Rv K φ' I' d0 v := Rv.mono S.pf S.ii hr
    by_cases ho : ∃ n, d0 = .obj n
    · obtain ⟨n, rfl⟩ := ho
      simp only [view] at hd
      cases hv with
      | obj h =>
        rename_i a
        cases e : st'.store[n]? with
        | none => rw [e] at hd; cases hd
        | some c =>
          rw [e] at hd
          have hc := R.cells n c a e h
          cases c with
          | dead => cases hd
          | ls ds =>
            cases hd
            exact .inr ⟨a, _, rfl, rfl, hc.elim (fun z => by cases z) id⟩
          | dc ds =>
            cases hd
            exact .inr ⟨a, _, rfl, rfl, hc.elim (fun z => by cases z) id⟩
          | dt ds =>
            cases hd
            exact .inr ⟨a, _, rfl, rfl, hc.elim (fun z => by cases z) id⟩
          | ins C fs =>
            cases hd
            exact .inl (.obj h)
    · have : view st' (.sh d0) = some d0 := by
        cases d0 <;> first | rfl | exact absurd ⟨_, rfl⟩ ho
      rw [this] at hd
      cases hd
      exact .inl hv
end PM

set_option Elab.async false
set_option linter.all false
set_option maxRecDepth 100000
set_option maxHeartbeats 1200000
namespace PM
open PySem PySem.Spec L2

/-! ### small runs -/
def mV (i : Nat) : M RV := fun st => match st.env[i]? with
  | some (.sh d) => .ok (.sh d) st
  | some (.ow _) => .ok (.lo i) st
  | _ => .stuck
def mL (d : D) : M RV := M.pure (.sh d)
def at2 {α : Type} (g : D → D → Option α) (r s : RV) : M α := fun st => match view st r, view st s with
  | some x, some y => M.ofO (g x y) st
  | _, _ => .stuck
def at1 {α : Type} (g : D → Option α) (r : RV) : M α := fun st => match view st r with
  | some x => M.ofO (g x) st
  | none => .stuck
def mOp (g : D → D → Option RV) (a b : M RV) : M RV := a.bor.bind fun r => b.bor.bind fun s => at2 g r s
def mUn (g : D → Option RV) (a : M RV) : M RV := a.bor.bind fun r => at1 g r
def mCmp (g : D → D → Option Bool) (a b : M RV) : M Bool := a.bor.bind fun r => b.bor.bind fun s => at2 g r s
def mT (g : D → Option Bool) (a : M RV) : M Bool := a.bor.bind fun r => at1 g r
def mBl (m : M Bool) : M RV := m.bind fun b => M.pure (.sh (.bl b))
def mAnd (a b : M Bool) : M Bool := a.bind fun c => if c then b else M.pure false
def mOr (a b : M Bool) : M Bool := a.bind fun c => if c then M.pure true else b
def mNot (a : M Bool) : M Bool := a.bind fun c => M.pure (!c)
def mIf {α : Type} (c : M Bool) (a b : M α) : M α := c.bind fun k => if k then a else b
def mNil : M (List D) := M.pure []
def mCons (a : M RV) (r : M (List D)) : M (List D) := a.frz.bind fun x => r.bind fun xs => M.pure (x :: xs)
/-- the largest number of items that is looked at -/
def lim : Nat := 1000000
theorem lim_le : lim ≤ sizeLine := by decide
theorem lim_lt : lim < sizeLine := by decide
def M.small {α : Type} (n : Nat) (m : M α) : M α := if n ≤ lim then m else M.stuck
def mTup (m : M (List D)) : M RV := m.bind fun xs => M.small xs.length (M.pure (.sh (.tup xs)))
def mLst (m : M (List D)) : M RV := m.bind fun xs => M.small xs.length (M.pure (.ow (.ls xs)))

section
variable {K : PySem.W.Frag} {E : Ent} {W : WX} {σ : L2.St} {H : Hp} {st : State} {φ : List Addr} {I : Hp} {α : Type}
theorem Po.small {n : Nat} {m : M α} {k : α → Hp → State → List Addr → Hp → Prop} (h : Po K E W σ (M.small n m st) H st φ I k) : n ≤ lim ∧ Po K E W σ (m st) H st φ I k := by
  unfold M.small at h
  by_cases hn : n ≤ lim
  · rw [if_pos hn] at h; exact ⟨hn, h⟩
  · rw [if_neg hn] at h; exact h.elim
/-- where the value is at hand, the state as it was -/
theorem Po.now {a : α} {k : α → Hp → State → List Addr → Hp → Prop} (h : Po K E W σ (M.pure a st) H st φ I k) {H' φ' I'} (S : Stp σ H st φ I H' st φ' I') (R : Rp K E σ H' st φ' I') : k a H' st φ' I' := h H' φ' I' S R
theorem Po.at2 {g : D → D → Option α} {r s : RV} {k : α → Hp → State → List Addr → Hp → Prop} (h : Po K E W σ (at2 g r s st) H st φ I k) :
    ∃ x y a, view st r = some x ∧ view st s = some y ∧ g x y = some a ∧ ∀ H' φ' I', Stp σ H st φ I H' st φ' I' → Rp K E σ H' st φ' I' → k a H' st φ' I' := by
  unfold PM.at2 at h
  cases e1 : view st r with
  | none => rw [e1] at h; exact h.elim
  | some x =>
    cases e2 : view st s with
    | none => rw [e1, e2] at h; exact h.elim
    | some y =>
      rw [e1, e2] at h
      simp only at h
      cases e3 : g x y with
      | none => rw [e3] at h; exact h.elim
      | some a => rw [e3] at h; exact ⟨x, y, a, rfl, rfl, e3, h⟩
theorem Po.at1 {g : D → Option α} {r : RV} {k : α → Hp → State → List Addr → Hp → Prop} (h : Po K E W σ (at1 g r st) H st φ I k) :
    ∃ x a, view st r = some x ∧ g x = some a ∧ ∀ H' φ' I', Stp σ H st φ I H' st φ' I' → Rp K E σ H' st φ' I' → k a H' st φ' I' := by
  unfold PM.at1 at h
  cases e1 : view st r with
  | none => rw [e1] at h; exact h.elim
  | some x =>
    rw [e1] at h
    simp only at h
    cases e3 : g x with
    | none => rw [e3] at h; exact h.elim
    | some a => rw [e3] at h; exact ⟨x, a, rfl, e3, h⟩
theorem Seen.rv {d : D} {v : V} (h : Rv K φ I d v) : Seen K φ I H d v := .inl h
end

section
variable {X : Cx} {E : Ent} {W : WX} {pos : Pos}
theorem sr_lit {e : Expr} {d : D} {v : V} (h : PE X e (tC v)) (hv : ∀ φ I, Rv X.K φ I d v) : SR X E W e (mL d) := PEi h fun σ H Q ⟨st, φ, I, R, p⟩ => p.pure R v (hv _ _) Nw.sh
theorem sr_int {i j pos} : SR X E W (.Constant (.int i) j pos) (mL (.int i)) := sr_lit pe_int fun _ _ => .int i
theorem sr_bl {b j pos} : SR X E W (.Constant (.bool b) j pos) (mL (.bl b)) := sr_lit pe_bl fun _ _ => .bl b
theorem sr_non {j pos} : SR X E W (.Constant .none j pos) (mL .non) := sr_lit pe_non fun _ _ => .non
theorem sr_str {x j pos} : SR X E W (.Constant (.str x) j pos) (mL (.str x)) := sr_lit pe_str fun _ _ => .str x
/-- a number, a text of the module -/
theorem sr_gI {x : Str} {i : Int} {t : Tok} {pos : Pos} (hg : Gl X x) (hm : X.mg x = some (.int i t)) (hd : (x == ("__debug__" : Str)) = false := by decide) : SR X E W (.Name x pos) (mL (.int i)) :=
  sr_lit (pe_glob (v := .int i) hg hm ⟨t, rfl⟩ hd) fun _ _ => .int i
theorem sr_gS {x : Str} {i : Str} {t : Tok} {pos : Pos} (hg : Gl X x) (hm : X.mg x = some (.str i t)) (hd : (x == ("__debug__" : Str)) = false := by decide) : SR X E W (.Name x pos) (mL (.str i)) :=
  sr_lit (pe_glob (v := .str i) hg hm ⟨t, rfl⟩ hd) fun _ _ => .str i
theorem sr_v (i : Nat) {x : Str} {pos : Pos} (hN : X.N[i]? = some x := by rfl) (hv : Vis X.env.scope x := by first | exact Or.inl rfl | exact Or.inr (Or.inl rfl) | exact Or.inr (Or.inr rfl)) (hd : (x == ("__debug__" : Str)) = false := by decide)
    (hcd : (x == ("__classdict__" : Str)) = false := by decide) : SR X E W (.Name x pos) (mV i) := PEi (pe_var hN hv hd hcd) fun σ H Q ⟨st, φ, I, R, p⟩ => by
  unfold mV at p
  cases e : st.env[i]? with
  | none => rw [e] at p; exact p.elim
  | some s =>
    rw [e] at p
    cases s with
    | un => exact p.elim
    | sh d =>
      obtain ⟨v, h1, h2⟩ := R.sh i d e
      exact ⟨v, h1, p H φ I Stp.refl R v h2 Nw.sh⟩
    | ow c =>
      obtain ⟨a, h1, h2⟩ := R.ow i c e
      exact ⟨_, h1, p H φ I Stp.refl R _ h1 fun _ _ q => by cases q⟩

/-! ### operations of values -/
/-- the value of an operation that changes nothing -/
def Af (K : PySem.W.Frag) (E : Ent) (σ : L2.St) (H : Hp) (st : State) (φ : List Addr) (I : Hp) (r : RV) (Q : VK) : Prop :=
  ∀ u H' I', Stp σ H st φ I H' st φ I' → Rp K E σ H' st φ I' → Rr K E σ H' st φ I' r u → (∀ a c, r = .ow c → u = .ref a → H a = none) → Q u H'
def rdO (K : PySem.W.Frag) (E : Ent) (g : D → D → Option RV) : R2 := fun v w H Q => ∃ σ st φ I x y r, Rp K E σ H st φ I ∧ Seen K φ I H x v ∧ Seen K φ I H y w ∧ g x y = some r ∧ Af K E σ H st φ I r Q
def rdB (K : PySem.W.Frag) (E : Ent) (g : D → D → Option Bool) : R2 := fun v w H Q => ∃ σ st φ I x y r, Rp K E σ H st φ I ∧ Seen K φ I H x v ∧ Seen K φ I H y w ∧ g x y = some r ∧ Q (.bl r) H
def rdU (K : PySem.W.Frag) (E : Ent) (g : D → Option RV) : V → Hp → VK → Prop := fun v H Q => ∃ σ st φ I x r, Rp K E σ H st φ I ∧ Seen K φ I H x v ∧ g x = some r ∧ Af K E σ H st φ I r Q
abbrev OpS (X : Cx) (E : Ent) (f : Value → Value → Sem Value) (g : D → D → Option RV) : Prop := OpR X f (rdO X.K E g)
abbrev OpB (X : Cx) (E : Ent) (f : Value → Value → Sem Value) (g : D → D → Option Bool) : Prop := OpR X f (rdB X.K E g)
variable {a b c : Expr} {ma mb mc : M RV} {g : D → D → Option RV} {gb : D → D → Option Bool} {gu : D → Option RV}
theorem Nw.far {σ : L2.St} {H H1 : Hp} {st : State} {r : RV} {v : V} (ht : ∀ a, H a ≠ none → H1 a ≠ none) (hn : ∀ a c, r = .ow c → v = .ref a → H1 a = none) : Nw σ H st r v := fun a c e1 e2 => (by
  have := hn a c e1 e2
  cases q : H a with
  | none => rfl
  | some o => exact absurd this (ht a (by rw [q]; simp)))
theorem rd_op {σ : L2.St} {H : Hp} {Q : VK} (h : rdR X.K E W (mOp g ma mb) σ H Q) : tOp (rdO X.K E g) (rdR X.K E W ma.bor) (rdR X.K E W mb.bor) σ H Q := by
  obtain ⟨st, φ, I, R, p⟩ := h
  refine ⟨st, φ, I, R, (Po.bind p).imp fun x H1 st1 φ1 I1 S1 R1 p1 v hv _ => ?_⟩
  refine ⟨st1, φ1, I1, R1, (Po.bind p1).imp fun y H2 st2 φ2 I2 S2 R2 p2 w hw _ => ?_⟩
  obtain ⟨x', y', r, ex, ey, e, p3⟩ := Po.at2 p2
  refine ⟨σ, st2, φ2, I2, x', y', r, R2, hv.seen S2 R2 ex, hw.seen Stp.refl R2 ey, e, fun u H' I' S' R' hr hn => ?_⟩
  have S12 := S1.trans S2
  exact p3 H' φ2 I' S' R' u hr (Nw.far S12.there hn)
theorem sr_op {op : Operator} (ho : OpS X E (binaryOp op) g) (ha : SR X E W a ma) (hb : SR X E W b mb) : SR X E W (.BinOp a op b pos) (mOp g ma mb) := PEi (pe_op ho (sr_bor ha) (sr_bor hb)) fun _ _ _ h => rd_op h
theorem sr_un {op : UnaryOp} (ho : UnR X (unaryOp op) (rdU X.K E gu)) (ha : SR X E W a ma) : SR X E W (.UnaryOp op a pos) (mUn gu ma) := PEi (pe_un ho (sr_bor ha)) fun σ H Q ⟨st, φ, I, R, p⟩ => by
  refine ⟨st, φ, I, R, (Po.bind p).imp fun x H1 st1 φ1 I1 S1 R1 p1 v hv _ => ?_⟩
  obtain ⟨x', r, ex, e, p3⟩ := Po.at1 p1
  exact ⟨σ, st1, φ1, I1, x', r, R1, hv.seen Stp.refl R1 ex, e, fun u H' I' S' R' hr hn => p3 H' φ1 I' S' R' u hr (Nw.far S1.there hn)⟩
theorem rd_cmp {σ : L2.St} {H : Hp} {Q : VK} {k : Bool → Hp → State → List Addr → Hp → Prop} {st : State} {φ : List Addr} {I : Hp} (R : Rp X.K E σ H st φ I) (p : Po X.K E W σ (mCmp gb ma mb st) H st φ I k)
    (hk : ∀ r H' st' φ' I', Rp X.K E σ H' st' φ' I' → k r H' st' φ' I' → Q (.bl r) H') : tOp (rdB X.K E gb) (rdR X.K E W ma.bor) (rdR X.K E W mb.bor) σ H Q := by
  refine ⟨st, φ, I, R, (Po.bind p).imp fun x H1 st1 φ1 I1 S1 R1 p1 v hv _ => ?_⟩
  refine ⟨st1, φ1, I1, R1, (Po.bind p1).imp fun y H2 st2 φ2 I2 S2 R2 p2 w hw _ => ?_⟩
  obtain ⟨x', y', r, ex, ey, e, p3⟩ := Po.at2 p2
  exact ⟨σ, st2, φ2, I2, x', y', r, R2, hv.seen S2 R2 ex, hw.seen Stp.refl R2 ey, e, hk r H2 st2 φ2 I2 R2 (p3 H2 φ2 I2 Stp.refl R2)⟩
theorem sr_cmp {op : CmpOp} (ho : OpB X E (compareOp op) gb) (ha : SR X E W a ma) (hb : SR X E W b mb) (hm : behindInMarks op b = false) : SR X E W (.Compare a [op] [b] pos) (mBl (mCmp gb ma mb)) := PEi (pe_cmpR ho (sr_bor ha) (sr_bor hb) hm) fun σ H Q ⟨st, φ, I, R, p⟩ =>
  rd_cmp R (Po.bind p) fun r H' st' φ' I' R' h => h.pure R' _ (.bl r) Nw.sh
theorem st_cmp {op : CmpOp} (ho : OpB X E (compareOp op) gb) (ha : SR X E W a ma) (hb : SR X E W b mb) (hm : behindInMarks op b = false) : ST X E W (.Compare a [op] [b] pos) (mCmp gb ma mb) := PTi (pt_cmpR ho (sr_bor ha) (sr_bor hb) hm) fun σ H Q ⟨st, φ, I, R, p⟩ =>
  rd_cmp R p fun r H' st' φ' I' _ h => ⟨r, rfl, h⟩

/-! ### and, or, not, if -/
variable {ta tb : M Bool} {rest : List Expr}
theorem rd_if {α : Type} {σ : L2.St} {H : Hp} {st : State} {φ : List Addr} {I : Hp} {k : α → Hp → State → List Addr → Hp → Prop} {x y : M α} (R : Rp X.K E σ H st φ I) (p : Po X.K E W σ (mIf ta x y st) H st φ I k) (Q : Bool → Hp → Prop)
    (h : ∀ b H1 st1 φ1 I1, Rp X.K E σ H1 st1 φ1 I1 → Stp σ H st φ I H1 st1 φ1 I1 → Po X.K E W σ ((if b = true then x else y) st1) H1 st1 φ1 I1 k → Q b H1) : rdT X.K E W ta σ H Q :=
  ⟨st, φ, I, R, (Po.bind p).imp fun b H1 st1 φ1 I1 S1 R1 p1 => h b H1 st1 φ1 I1 R1 S1 p1⟩
theorem sw_and1 (ha : ST X E W a ta) : SW X E W (.BoolOp .And [a] pos) ta := pw_and1 ha
theorem sw_or1 (ha : ST X E W a ta) : SW X E W (.BoolOp .Or [a] pos) ta := pw_or1 ha
theorem sw_and (ha : ST X E W a ta) (hb : SW X E W (.BoolOp .And (b :: rest) pos) tb) : SW X E W (.BoolOp .And (a :: b :: rest) pos) (mAnd ta tb) := PWi (pw_and ha hb) fun σ H Q ⟨st, φ, I, R, p⟩ => by
  refine rd_if R p _ fun c H1 st1 φ1 I1 R1 S1 p1 => ?_
  cases c with
  | true => exact ⟨st1, φ1, I1, R1, p1⟩
  | false => exact p1.pure R1
theorem sw_or (ha : ST X E W a ta) (hb : SW X E W (.BoolOp .Or (b :: rest) pos) tb) : SW X E W (.BoolOp .Or (a :: b :: rest) pos) (mOr ta tb) := PWi (pw_or ha hb) fun σ H Q ⟨st, φ, I, R, p⟩ => by
  refine rd_if R p _ fun c H1 st1 φ1 I1 R1 S1 p1 => ?_
  cases c with
  | true => exact p1.pure R1
  | false => exact ⟨st1, φ1, I1, R1, p1⟩
theorem st_not (ha : ST X E W a ta) : ST X E W (.UnaryOp .Not a pos) (mNot ta) := PTi (pt_not ha) fun σ H Q ⟨st, φ, I, R, p⟩ =>
  ⟨st, φ, I, R, (Po.bind p).imp fun c H1 st1 φ1 I1 S1 R1 p1 => p1.pure R1⟩
theorem sr_if (hc : ST X E W c ta) (ha : SR X E W a ma) (hb : SR X E W b mb) : SR X E W (.IfExp c a b pos) (mIf ta ma mb) := PEi (pe_ifExp hc ha hb) fun σ H Q ⟨st, φ, I, R, p⟩ => by
  refine rd_if R p _ fun k H1 st1 φ1 I1 R1 S1 p1 => ?_
  cases k with
  | true => exact ⟨st1, φ1, I1, R1, p1.imp fun r H2 st2 φ2 I2 S2 R2 q v hr hn => q v hr (hn.back S1)⟩
  | false => exact ⟨st1, φ1, I1, R1, p1.imp fun r H2 st2 φ2 I2 S2 R2 q v hr hn => q v hr (hn.back S1)⟩
/-- a bool's value: and, or, not -/
theorem asBl {σ : L2.St} {H : Hp} {Q : VK} (h : rdR X.K E W (mBl ta) σ H Q) : rdT X.K E W ta σ H fun b H1 => Q (.bl b) H1 := by
  obtain ⟨st, φ, I, R, p⟩ := h
  exact ⟨st, φ, I, R, (Po.bind p).imp fun b H1 st1 φ1 I1 S1 R1 p1 => p1.pure R1 _ (.bl b) Nw.sh⟩
/-- an expression whose runs give bools -/
abbrev SB (X : Cx) (E : Ent) (W : WX) (e : Expr) (m : M Bool) : Prop := SR X E W e (mBl m)
theorem sb_one {op} (h : SB X E W a ta) : SB X E W (.BoolOp op [a] pos) ta := pe_one h
theorem ofBl {σ : L2.St} {H : Hp} {Q : VK} (h : rdT X.K E W ta σ H fun b H1 => Q (.bl b) H1) : rdR X.K E W (mBl ta) σ H Q := by
  obtain ⟨st, φ, I, R, p⟩ := h
  refine ⟨st, φ, I, R, ?_⟩
  show Po X.K E W σ (M.bind ta (fun b => M.pure (RV.sh (.bl b))) st) H st φ I _
  unfold M.bind
  cases e : ta st with
  | ok b st1 =>
    rw [e] at p
    intro H1 φ1 I1 S1 R1 v hv _
    have e2 : v = .bl b := by cases hv; rfl
    subst e2
    exact p H1 φ1 I1 S1 R1
  | exc c st1 => rw [e] at p; exact p
  | stuck => rw [e] at p; exact p
theorem rdTi {σ : L2.St} {H : Hp} {Q Q' : Bool → Hp → Prop} (h : rdT X.K E W ta σ H Q) (k : ∀ b H, Q b H → Q' b H) : rdT X.K E W ta σ H Q' := by
  obtain ⟨st, φ, I, R, p⟩ := h
  exact ⟨st, φ, I, R, p.imp fun b H1 _ _ _ _ _ q => k b H1 q⟩
theorem sb_and (ha : SB X E W a ta) (hb : SB X E W (.BoolOp .And (b :: rest) pos) tb) : SB X E W (.BoolOp .And (a :: b :: rest) pos) (mAnd ta tb) := PEi (pe_and ha hb) fun σ H Q h => by
  obtain ⟨st, φ, I, R, p⟩ := asBl h
  refine ofBl (rdTi (rd_if R p _ fun c H1 st1 φ1 I1 R1 S1 p1 => ?_) fun b H q => ⟨b, rfl, q⟩)
  cases c with
  | true => exact ofBl ⟨st1, φ1, I1, R1, p1⟩
  | false => exact p1.pure R1
theorem sb_or (ha : SB X E W a ta) (hb : SB X E W (.BoolOp .Or (b :: rest) pos) tb) : SB X E W (.BoolOp .Or (a :: b :: rest) pos) (mOr ta tb) := PEi (pe_or ha hb) fun σ H Q h => by
  obtain ⟨st, φ, I, R, p⟩ := asBl h
  refine ofBl (rdTi (rd_if R p _ fun c H1 st1 φ1 I1 R1 S1 p1 => ?_) fun b H q => ⟨b, rfl, q⟩)
  cases c with
  | true => exact p1.pure R1
  | false => exact ofBl ⟨st1, φ1, I1, R1, p1⟩
theorem sb_not (ha : SB X E W a ta) : SB X E W (.UnaryOp .Not a pos) (mNot ta) := PEi (pe_not ha) fun σ H Q h => by
  obtain ⟨st, φ, I, R, p⟩ := asBl h
  exact ofBl ⟨st, φ, I, R, (Po.bind p).imp fun b H1 st1 φ1 I1 S1 R1 p1 => ⟨b, rfl, p1.pure R1⟩⟩
/-- .. of a run whose value must be a bool -/
def asB : D → Option Bool
  | .bl b => some b
  | _ => none
def mB (m : M RV) : M Bool := m.bind fun r => match r with
  | .sh d => M.ofO (asB d)
  | _ => M.stuck
theorem rd_B {σ : L2.St} {H : Hp} {Q : Bool → Hp → Prop} (h : rdT X.K E W (mB ma) σ H Q) : rdR X.K E W ma σ H fun x H1 => ∃ c, x = .bl c ∧ Q c H1 := by
  obtain ⟨st, φ, I, R, p⟩ := h
  refine ⟨st, φ, I, R, (Po.bind p).imp fun r H1 st1 φ1 I1 S1 R1 p1 v hv _ => ?_⟩
  cases r with
  | ow c => exact p1.elim
  | lo i => exact p1.elim
  | sh d =>
    obtain ⟨b, e, p2⟩ := Po.ofO p1
    cases d <;> simp only [asB, Option.some.injEq, reduceCtorEq] at e
    subst e
    cases hv
    exact ⟨_, rfl, p2 H1 φ1 I1 Stp.refl R1⟩
theorem sb_B (h : SR X E W a ma) : SB X E W a (mB ma) := PEi h fun σ H Q h => by
  have h1 := rd_B (asBl h)
  obtain ⟨st, φ, I, R, p⟩ := h1
  refine ⟨st, φ, I, R, p.imp fun r H1 st1 φ1 I1 S1 R1 q v hv hn => ?_⟩
  obtain ⟨c, rfl, q⟩ := q v hv hn
  exact q
theorem st_B (h : SR X E W a ma) (he : ∀ whole, isTrue a X.env whole = (do let v ← whole; standAt a.pos; holding [v] (truthy v)) := by intro _; rfl) : ST X E W a (mB ma) := PTi (pt_val h he) fun σ H Q h => rd_B h

/-! ### arguments, displays -/
variable {es : List Expr} {mr : M (List D)}
theorem sa_nil : SA X E W [] mNil := PAi pa_nil fun σ H Q ⟨st, φ, I, R, p⟩ => p.pure R _ .nil
theorem sa_cons (ha : SR X E W a ma) (hr : SA X E W es mr) (hs : starEach (a :: es) X.env = (false, eval a X.env) :: starEach es X.env := by rfl) : SA X E W (a :: es) (mCons ma mr) := PAi (pa_cons (se_frz ha) hr hs) fun σ H Q ⟨st, φ, I, R, p⟩ => by
  refine ⟨st, φ, I, R, (Po.bind p).imp fun x H1 st1 φ1 I1 S1 R1 p1 v hv => ?_⟩
  refine ⟨st1, φ1, I1, R1, (Po.bind p1).imp fun y H2 st2 φ2 I2 S2 R2 p2 w hw => ?_⟩
  exact p2.pure R2 _ (.cons (hv.mono S2.pf S2.ii) hw)
theorem sr_tup {k} (h : SA X E W es mr) : SR X E W (.Tuple es k pos) (mTup mr) := PEi (pe_tup h) fun σ H Q ⟨st, φ, I, R, p⟩ => by
  refine ⟨st, φ, I, R, (Po.bind p).imp fun xs H1 st1 φ1 I1 S1 R1 p1 vs hv => ?_⟩
  obtain ⟨hz, p2⟩ := Po.small p1
  refine ⟨by rw [← hv.len]; exact Nat.le_trans hz lim_le, fun q hq => ?_⟩
  obtain ⟨R2, S2⟩ := R1.laidS hq (.tup vs)
  exact p2 _ φ1 _ S2 R2 _ (.tup upd_same (hv.mono S2.pf S2.ii)) Nw.sh
theorem sr_lst (h : SA X E W es mr) : SR X E W (.List es pos) (mLst mr) := PEi (pe_lst h) fun σ H Q ⟨st, φ, I, R, p⟩ => by
  refine ⟨st, φ, I, R, (Po.bind p).imp fun xs H1 st1 φ1 I1 S1 R1 p1 vs hv => ?_⟩
  obtain ⟨hz, p2⟩ := Po.small p1
  refine ⟨by rw [← hv.len]; exact Nat.le_trans hz lim_le, fun q hq => ?_⟩
  obtain ⟨R2, S2⟩ := R1.laidO hq (.lst vs)
  obtain ⟨h0, hφ, hI, ho⟩ := R1.fresh hq
  exact p2 _ φ1 _ S2 R2 _ ⟨q, rfl, ⟨_, upd_same, hI, .ls hv⟩, hφ, h0, ho⟩ (Nw.far S1.there fun a c _ e => by cases e; exact hq)
end
end PM

set_option Elab.async false
set_option linter.all false
set_option maxRecDepth 100000
set_option maxHeartbeats 1200000
namespace PM
open PySem PySem.Spec L2

theorem Grow.refl {φ : List Addr} {I : Hp} : Grow φ I φ I := ⟨List.prefix_rfl, Ex.refl _⟩
theorem Grow.trans {φ p1 p2 : List Addr} {I I1 I2 : Hp} (a : Grow φ I p1 I1) (b : Grow p1 I1 p2 I2) : Grow φ I p2 I2 := ⟨a.pf.trans b.pf, a.ii.trans b.ii⟩
theorem Stp.grow {σ : L2.St} {H H' : Hp} {st st' : State} {φ φ' : List Addr} {I I' : Hp} (S : Stp σ H st φ I H' st' φ' I') : Grow φ I φ' I' := ⟨S.pf, S.ii⟩

/-! ### runs of statements -/
def mNx : MS := .nx
def mSeq (a b : MS) : MS := fun st => match a st with
  | .nx st' => b st'
  | o => o
def M.then {α : Type} (m : M α) (f : α → MS) : MS := fun st => match m st with
  | .ok a st' => f a st'
  | .exc c st' => .exc c st'
  | .stuck => .stuck
def mDrop (m : M RV) : MS := m.then fun _ => .nx
/-- a value, the frame's own shared -/
def M.fix (m : M RV) : M RV := m.bind fun r => match r with
  | .lo i => (mVar i).bind fun d => M.pure (.sh d)
  | r => M.pure r
def mSet (i : Nat) (m : M RV) : MS := m.fix.then fun r st => .nx { st with env := st.env.set i r.slot }
def mRet (m : M RV) : MS := m.fix.then fun r st => .rt r st
/-- the frame's own thing is handed out -/
def mRetV (i : Nat) : MS := fun st => match st.env[i]? with
  | some (.sh d) => .rt (.sh d) st
  | some (.ow c) => .rt (.ow c) { st with env := st.env.set i .un }
  | _ => .stuck
def mRetN : MS := fun st => .rt (.sh .non) st
def mIfS (c : M Bool) (a b : MS) : MS := c.then fun k => if k then a else b
def mBrk : MS := .bk
def mCnt : MS := .ct
def mStk : MS := fun _ => .stuck
def mWhileN : Nat → M Bool → MS → MS
  | 0, _, _ => fun _ => .stuck
  | n + 1, c, b => c.then fun k => if k then fun st => match b st with
      | .nx st' => mWhileN n c b st'
      | .ct st' => mWhileN n c b st'
      | .bk st' => .nx st'
      | o => o
    else .nx
def mWhile (f : State → Nat) (c : M Bool) (b : MS) : MS := fun st => mWhileN (f st) c b st
def mForL (g : D → State → Option State) (b : MS) : List D → MS
  | [] => .nx
  | d :: ds => fun st => match g d st with
    | some st1 => match b st1 with
      | .nx st' => mForL g b ds st'
      | .ct st' => mForL g b ds st'
      | .bk st' => .nx st'
      | o => o
    | none => .stuck
def mFor (it : M (List D)) (g : D → State → Option State) (b : MS) : MS := it.then fun ds => mForL g b ds
/-- targets -/
def gN (i : Nat) : D → State → Option State := fun d st => some { st with env := st.env.set i (.sh d) }
def gsNil : List D → State → Option State := fun ds st => match ds with
  | [] => some st
  | _ => none
def gsCons (g : D → State → Option State) (r : List D → State → Option State) : List D → State → Option State := fun ds st => match ds with
  | d :: ds => (g d st).bind (r ds)
  | [] => none
def gT (n : Nat) (r : List D → State → Option State) : D → State → Option State := fun d st => match d with
  | .tup ds => if ds.length = n then r ds st else none
  | .tpF ds => if ds.length = n then r ds st else none
  | _ => none

section
variable {K : PySem.W.Frag} {E : Ent} {W : WX} {σ : L2.St} {H : Hp} {st : State} {φ : List Addr} {I : Hp} {α β : Type} {D : Ends}
theorem Ps.grow {φ0 : List Addr} {I0 : Hp} {o : SOut} (g : Grow φ0 I0 φ I) (h : Ps K E W φ0 I0 D o) : Ps K E W φ I D o := by
  cases o with
  | nx st => exact fun a b c d e => h a b c d (g.trans e)
  | bk st => exact fun a b c d e => h a b c d (g.trans e)
  | ct st => exact fun a b c d e => h a b c d (g.trans e)
  | rt r st => exact fun x a b c d e => h x a b c d (g.trans e)
  | exc r st => exact fun x a b c d e => h x a b c d (g.trans e)
  | stuck => exact h
theorem Ps.then {m : M α} {f : α → MS} (h : Ps K E W φ I D (m.then f st)) : Po K E W σ (m st) H st φ I fun a H1 st1 φ1 I1 => Ps K E W φ1 I1 D (f a st1) := by
  unfold M.then at h
  cases e : m st with
  | ok a st1 =>
    rw [e] at h
    exact fun H1 φ1 I1 S1 R1 => Ps.grow S1.grow h
  | exc c st1 =>
    rw [e] at h
    exact fun d H' φ' I' S R x => h d σ H' φ' I' S.grow R x
  | stuck => rw [e] at h; exact h
end

section
variable {X : Cx} {E : Ent} {W : WX} {pos : Pos} {s : Stmt} {rest : List Stmt} {a b : MS} {e c : Expr} {m : M RV} {tc : M Bool}
theorem ss_nil : SSs X E W [] mNx := PSsi pss_nil fun D σ H ⟨st, φ, I, R, p⟩ => p σ H φ I Grow.refl R
theorem ss_cons (ha : SS X E W s a) (hb : SSs X E W rest b) : SSs X E W (s :: rest) (mSeq a b) := PSsi (pss_cons ha hb) fun D σ H ⟨st, φ, I, R, p⟩ => by
  refine ⟨st, φ, I, R, ?_⟩
  unfold mSeq at p
  cases e : a st with
  | nx st' =>
    rw [e] at p
    exact fun σ' H' φ' I' g R' => ⟨st', φ', I', R', Ps.grow g p⟩
  | rt r st' => rw [e] at p; exact p
  | bk st' => rw [e] at p; exact p
  | ct st' => rw [e] at p; exact p
  | exc r st' => rw [e] at p; exact p
  | stuck => rw [e] at p; exact p
theorem ss_one (ha : SS X E W s a) : SSs X E W [s] a := pss_one ha
theorem ss_pass : SS X E W (.Pass pos) mNx := PSi ps_pass fun D σ H ⟨st, φ, I, R, p⟩ => p σ H φ I Grow.refl R
theorem ss_brk : SS X E W (.Break pos) mBrk := PSi ps_break fun D σ H ⟨st, φ, I, R, p⟩ => p σ H φ I Grow.refl R
theorem ss_cnt : SS X E W (.Continue pos) mCnt := PSi ps_continue fun D σ H ⟨st, φ, I, R, p⟩ => p σ H φ I Grow.refl R
theorem ss_stk : SS X E W s mStk := PSi ps_never fun D σ H ⟨st, φ, I, R, p⟩ => p.elim
theorem ss_doc {x j pos pos'} : SS X E W (.Expr (.Constant (.str x) j pos) pos') mNx := PSi ps_doc fun D σ H ⟨st, φ, I, R, p⟩ => p σ H φ I Grow.refl R
theorem ss_expr (h : SR X E W e m) (hs : swapsWith e none pos.line X.env = pure false := by rfl) : SS X E W (.Expr e pos) (mDrop m) := PSi (ps_expr h hs) fun D σ H ⟨st, φ, I, R, p⟩ =>
  ⟨st, φ, I, R, (Ps.then p).imp fun r H1 st1 φ1 I1 S1 R1 q v _ _ => q σ H1 φ1 I1 Grow.refl R1⟩
/-- a value to be kept -/
theorem sr_fix (h : SR X E W e m) : SR X E W e m.fix := PEi h fun σ H Q ⟨st, φ, I, R, p⟩ => by
  refine ⟨st, φ, I, R, ?_⟩
  unfold M.fix M.bind at p
  cases e : m st with
  | ok r st1 =>
    rw [e] at p
    intro H1 φ1 I1 S1 R1 v hr hn
    cases r with
    | sh d => exact p H1 φ1 I1 S1 R1 v hr hn
    | ow c => exact p H1 φ1 I1 S1 R1 v hr hn
    | lo i =>
      have p' : Po X.K E W σ (mVar i st1) H1 st1 φ1 I1 fun d H' st' φ' I' => ∀ v, Rv X.K φ' I' d v → Q v H' := by
        simp only at p
        cases e2 : mVar i st1 with
        | ok d st2 =>
          rw [e2] at p
          exact fun H2 φ2 I2 S2 R2 v hv => p H2 φ2 I2 (S1.trans S2) R2 v hv Nw.sh
        | exc c st2 =>
          rw [e2] at p
          exact fun d H2 φ2 I2 S2 R2 => p d H2 φ2 I2 (S1.trans S2) R2
        | stuck => rw [e2] at p; exact p
      obtain ⟨v', d, st', I', h1, S', R', h2, q⟩ := R1.var p'
      have hr' : σ[i]? = some (some v) := hr
      rw [hr'] at h1
      cases h1
      exact q v h2
  | exc c st1 => rw [e] at p; exact p
  | stuck => rw [e] at p; exact p
theorem ss_set (i : Nat) {x : Str} {pos' : Pos} (hN : X.N.Nodup) (h : SR X E W e m) (hi : X.N[i]? = some x := by rfl) (hx : Loc X.env.scope x := by first | exact Or.inl rfl | exact Or.inr rfl) (hs : swapsWith e (some (.Name x pos')) pos.line X.env = pure false := by rfl)
    (hf : X.fn x = true ∨ X.env.scope.names.lookup x = some .local := by first | exact .inl rfl | exact .inr rfl | assumption) : SS X E W (.Assign [.Name x pos'] e pos) (mSet i m) := PSi (ps_set hN hi hx (sr_fix h) hs hf) fun D σ H ⟨st, φ, I, R, p⟩ =>
  ⟨st, φ, I, R, (Ps.then p).imp fun r H1 st1 φ1 I1 S1 R1 q v hv _ => q _ H1 φ1 I1 Grow.refl (R1.setR hv)⟩
theorem ss_ret (h : SR X E W e m) : SS X E W (.Return (some e) pos) (mRet m) := PSi (ps_ret (sr_fix h)) fun D σ H ⟨st, φ, I, R, p⟩ =>
  ⟨st, φ, I, R, (Ps.then p).imp fun r H1 st1 φ1 I1 S1 R1 q v hv _ => q v σ H1 φ1 I1 Grow.refl R1 hv⟩
theorem ss_retN : SS X E W (.Return none pos) mRetN := PSi ps_retN fun D σ H ⟨st, φ, I, R, p⟩ => p .non σ H φ I Grow.refl R .non
theorem ss_if {x y : List Stmt} (hc : ST X E W c tc) (ha : SSs X E W x a) (hb : SSs X E W y b) : SS X E W (.If c x y pos) (mIfS tc a b) := PSi (ps_if hc ha hb) fun D σ H ⟨st, φ, I, R, p⟩ => by
  refine ⟨st, φ, I, R, (Ps.then p).imp fun k H1 st1 φ1 I1 S1 R1 q => ?_⟩
  cases k with
  | true => exact ⟨st1, φ1, I1, R1, q⟩
  | false => exact ⟨st1, φ1, I1, R1, q⟩
theorem ss_while (f : State → Nat) {x : List Stmt} (hp : PassesOwn (model X.prog X.w) X.A X.env X.xe) (hc : ST X E W c tc) (ha : SSs X E W x a) : SS X E W (.While c x [] pos) (mWhile f tc a) := PSi (ps_while hp hc ha) fun D σ H ⟨st, φ, I, R, p⟩ => by
  refine ⟨fun n σ H => ∃ st φ I, Rp X.K E σ H st φ I ∧ Ps X.K E W φ I D (mWhileN n tc a st), ⟨_, st, φ, I, R, p⟩, ?_⟩
  rintro n σ H ⟨st, φ, I, R, p⟩
  cases n with
  | zero => exact p.elim
  | succ n =>
    refine ⟨st, φ, I, R, (Ps.then p).imp fun k H1 st1 φ1 I1 S1 R1 q => ?_⟩
    cases k with
    | false => exact q σ H1 φ1 I1 Grow.refl R1
    | true =>
      refine ⟨fun σ H => ∃ st φ I, Rp X.K E σ H st φ I ∧ Ps X.K E W φ I D (mWhileN n tc a st), fun σ' H' h => ⟨n, Nat.lt_succ_self n, h⟩, st1, φ1, I1, R1, ?_⟩
      replace q : Ps X.K E W φ1 I1 D (match a st1 with
        | .nx st' => mWhileN n tc a st'
        | .ct st' => mWhileN n tc a st'
        | .bk st' => .nx st'
        | o => o) := q
      cases e : a st1 with
      | nx st2 => rw [e] at q; exact fun σ2 H2 φ2 I2 g R2 => ⟨st2, φ2, I2, R2, Ps.grow g q⟩
      | ct st2 => rw [e] at q; exact fun σ2 H2 φ2 I2 g R2 => ⟨st2, φ2, I2, R2, Ps.grow g q⟩
      | bk st2 => rw [e] at q; exact q
      | rt r st2 => rw [e] at q; exact q
      | exc r st2 => rw [e] at q; exact q
      | stuck => rw [e] at q; exact q

/-! ### targets -/
/-- slots other than ts are as they were -/
structure Off (ts : List Nat) (σ σ' : L2.St) (st st' : State) : Prop where
  same : ∀ i, i ∉ ts → σ'[i]? = σ[i]?
  len : σ'.length = σ.length
  ow : ∀ j a, Owns st'.env σ' j a → Owns st.env σ j a
  env : ∀ i, i ∉ ts → st'.env[i]? = st.env[i]?
  store : st'.store = st.store
theorem Off.refl {ts : List Nat} {σ : L2.St} {st : State} : Off ts σ σ st st := ⟨fun _ _ => rfl, rfl, fun _ _ h => h, fun _ _ => rfl, rfl⟩
theorem Off.trans {ts us : List Nat} {σ σ1 σ2 : L2.St} {st st1 st2 : State} (a : Off ts σ σ1 st st1) (b : Off us σ1 σ2 st1 st2) : Off (ts ++ us) σ σ2 st st2 :=
  ⟨fun i h => (b.same i fun z => h (List.mem_append_right _ z)).trans (a.same i fun z => h (List.mem_append_left _ z)), b.len.trans a.len, fun j x h => a.ow j x (b.ow j x h), fun i h => (b.env i fun z => h (List.mem_append_right _ z)).trans (a.env i fun z => h (List.mem_append_left _ z)), b.store.trans a.store⟩
def rdG (K : PySem.W.Frag) (E : Ent) (ts : List Nat) (g : D → State → Option State) : TG := fun v σ H Q => ∃ st φ I d st', Rp K E σ H st φ I ∧ Rv K φ I d v ∧ g d st = some st' ∧ ∀ σ', Off ts σ σ' st st' → Rp K E σ' H st' φ I → Q σ' H
def rdGs (K : PySem.W.Frag) (E : Ent) (ts : List Nat) (g : List D → State → Option State) : TGs := fun vs σ H Q => ∃ st φ I ds st', Rp K E σ H st φ I ∧ Rvs K φ I ds vs ∧ g ds st = some st' ∧ ∀ σ', Off ts σ σ' st st' → Rp K E σ' H st' φ I → Q σ' H
theorem PGi {e : Expr} {t t' : TG} (h : PG X e t) (k : ∀ v σ H Q, t' v σ H Q → t v σ H Q) : PG X e t' := ⟨fun p s σ H v u Q I r q => h.run p s σ H v u Q I r (k _ _ _ _ q)⟩
theorem PGsi {e : List Expr} {t t' : TGs} (h : PGs X e t) (k : ∀ v σ H Q, t' v σ H Q → t v σ H Q) : PGs X e t' := ⟨fun p s σ H v u Q I r q => h.run p s σ H v u Q I r (k _ _ _ _ q)⟩
abbrev SG (X : Cx) (E : Ent) (e : Expr) (ts : List Nat) (g : D → State → Option State) : Prop := PG X e (rdG X.K E ts g)
abbrev SGs (X : Cx) (E : Ent) (e : List Expr) (ts : List Nat) (g : List D → State → Option State) : Prop := PGs X e (rdGs X.K E ts g)
variable {g : D → State → Option State} {gr : List D → State → Option State} {es : List Expr} {ts us : List Nat}
theorem sg_n (i : Nat) {x : Str} (hN : X.N.Nodup) (hi : X.N[i]? = some x := by rfl) (hx : Loc X.env.scope x := by first | exact Or.inl rfl | exact Or.inr rfl) (hf : X.fn x = true ∨ X.env.scope.names.lookup x = some .local := by first | exact .inl rfl | exact .inr rfl | assumption) :
    SG X E (.Name x pos) [i] (gN i) := PGi (pg_name hN hi hx hf) fun v σ H Q ⟨st, φ, I, d, st', R, hv, e, q⟩ => by
  cases e
  refine q _ ⟨fun j hj => ?_, List.length_set .., ?_, fun j hj => ?_, rfl⟩ (R.setR (r := .sh d) hv)
  · exact List.getElem?_set_ne (fun z => hj (by simp [z]))
  · rintro j a ⟨c, q1, q2⟩
    have hj : i ≠ j := by
      rintro rfl
      have hi : i < st.env.length := by
        have := (List.getElem?_eq_some_iff.mp q1).1
        rwa [List.length_set] at this
      rw [List.getElem?_set_self hi] at q1
      cases q1
    rw [List.getElem?_set_ne hj] at q1 q2
    exact ⟨c, q1, q2⟩
  · exact List.getElem?_set_ne (fun z => hj (by simp [z]))
theorem sgs_nil : SGs X E [] [] gsNil := PGsi pgs_nil fun vs σ H Q ⟨st, φ, I, ds, st', R, hv, e, q⟩ => by
  cases ds with
  | cons _ _ => cases e
  | nil =>
    cases e
    cases hv
    exact ⟨rfl, q σ Off.refl R⟩
theorem sgs_cons (h1 : SG X E e ts g) (h2 : SGs X E es us gr) (hs : (assignEach (e :: es) X.env).map (·.2) = assign e X.env :: (assignEach es X.env).map (·.2) := by rfl) : SGs X E (e :: es) (ts ++ us) (gsCons g gr) := PGsi (pgs_cons h1 h2 hs) fun vs σ H Q ⟨st, φ, I, ds, st', R, hv, e, q⟩ => by
  cases ds with
  | nil => cases e
  | cons d ds =>
    cases hv with
    | cons hv hvs =>
      obtain ⟨st1, e1, e2⟩ := Option.bind_eq_some_iff.mp (show (g d st).bind (gr ds) = some st' from e)
      refine ⟨_, _, rfl, st, φ, I, d, st1, R, hv, e1, fun σ1 o1 R1 => ?_⟩
      exact ⟨st1, φ, I, ds, st', R1, hvs, e2, fun σ2 o2 R2 => q σ2 (o1.trans o2) R2⟩
theorem sg_tup {k : Nat} {n : Nat} (hc : X.calm = true) (h : SGs X E es ts gr) (hn : (assignEach es X.env).length = n := by rfl) (hst : (assignEach es X.env).findIdx? (·.1) = none := by rfl) : SG X E (.Tuple es k pos) ts (gT n gr) := PGi (pg_tup hc h hn hst) fun v σ H Q ⟨st, φ, I, d, st', R, hv, e, q⟩ => by
  unfold gT at e
  cases d <;> simp only [reduceCtorEq] at e
  · rename_i ds
    by_cases hl : ds.length = n
    · rw [if_pos hl] at e
      cases hv with
      | tup hs hr => exact ⟨_, _, rfl, .inl (.inl (R.ext _ _ hs)), hr.len.symm.trans hl, st, φ, I, ds, st', R, hr, e, q⟩
    · rw [if_neg hl] at e
      cases e
  · rename_i ds
    by_cases hl : ds.length = n
    · rw [if_pos hl] at e
      cases hv with
      | tpF hs hr => exact ⟨_, _, rfl, sqT_mono R.ext hs, hr.len.symm.trans hl, st, φ, I, ds, st', R, hr, e, q⟩
    · rw [if_neg hl] at e
      cases e
/-- a target gets an expression's value -/
def mAsg (g : D → State → Option State) (m : M RV) : MS := m.frz.then fun d st => match g d st with
  | some st' => .nx st'
  | none => .stuck
theorem ss_asg {tg : Expr} (h : SR X E W e m) (hg : SG X E tg ts g) (hs : swapsWithSole [tg] e pos.line X.env = pure false := by rfl) (hw : swappedStores [tg] e X.env = pure none := by rfl) (h1 : (assignEach [tg] X.env).map (·.2) = [assign tg X.env] := by rfl) :
    SS X E W (.Assign [tg] e pos) (mAsg g m) := PSi (ps_asg (se_frz h) hg hs hw h1) fun D σ H ⟨st, φ, I, R, p⟩ => by
  refine ⟨st, φ, I, R, (Ps.then p).imp fun d H1 st1 φ1 I1 S1 R1 q v hv => ?_⟩
  cases e : g d st1 with
  | none => rw [e] at q; exact q.elim
  | some st2 =>
    rw [e] at q
    exact ⟨st1, φ1, I1, d, st2, R1, hv, e, fun σ' _ R' => q σ' H1 φ1 I1 Grow.refl R'⟩

/-! ### for -/
/-- the iterator J gives these items, one a turn, from now on -/
def Walk (K : PySem.W.Frag) (E : Ent) (J : It) (ds : List D) (φ0 : List Addr) (I0 : Hp) : Prop := ∀ σ H st φ I, Rp K E σ H st φ I → Grow φ0 I0 φ I → ∀ i : Nat,
  (∀ d, ds[i]? = some d → J.go i H ∧ ∀ x H', J.yld i H x H' → ∃ I', Rp K E σ H' st φ I' ∧ Stp σ H st φ I H' st φ I' ∧ Rv K φ I' d x) ∧ (ds.length ≤ i → J.stop i H)
def rdI (K : PySem.W.Frag) (E : Ent) (W : WX) (m : M (List D)) : TI := fun σ H R => ∃ st φ I, Rp K E σ H st φ I ∧ Po K E W σ (m st) H st φ I fun ds H' st' φ' I' => ∀ J, Walk K E J ds φ' I' → R J H'
abbrev SI (X : Cx) (E : Ent) (W : WX) (tg iter : Expr) (m : M (List D)) : Prop := PI X tg iter (rdI X.K E W m)
theorem PIi {tg e : Expr} {t t' : TI} (h : PI X tg e t) (k : ∀ σ H R, t' σ H R → t σ H R) : PI X tg e t' := ⟨fun p s σ H Q I q => h.run p s σ H Q I (k _ _ _ q)⟩
theorem ss_for {tg iter : Expr} {mi : M (List D)} {x : List Stmt} (hp : PassesOwn (model X.prog X.w) X.A X.env X.xe) (hc : X.calm = true) (hi : SI X E W tg iter mi) (hg : SG X E tg ts g) (hb : SSs X E W x a)
    (hs : ∀ x, foldedSetIterable iter X.env x = pure x := by intro _; rfl) : SS X E W (.For tg iter x [] pos) (mFor mi g a) := PSi (ps_for hp hc hi hg hb hs) fun D σ H ⟨st, φ, I, R, p⟩ => by
  refine ⟨st, φ, I, R, (Ps.then p).imp fun ds H1 st1 φ1 I1 S1 R1 q J hJ => ?_⟩
  refine ⟨fun i m σ H => m + i = ds.length ∧ ∃ st φ I, Rp X.K E σ H st φ I ∧ Grow φ1 I1 φ I ∧ Ps X.K E W φ I D (mForL g a (ds.drop i) st), ⟨ds.length, rfl, st1, φ1, I1, R1, Grow.refl, q⟩, ?_⟩
  rintro i m σ2 H2 ⟨hm, st2, φ2, I2, R2, g2, p2⟩
  obtain ⟨h1, h2⟩ := hJ σ2 H2 st2 φ2 I2 R2 g2 i
  by_cases hi : i < ds.length
  · refine .inr ?_
    have hd : ds.drop i = ds[i] :: ds.drop (i + 1) := List.drop_eq_getElem_cons hi
    rw [hd] at p2
    obtain ⟨go, yld⟩ := h1 ds[i] (List.getElem?_eq_getElem hi)
    refine ⟨go, fun σ H => ∃ st φ I, Rp X.K E σ H st φ I ∧ Grow φ1 I1 φ I ∧ Ps X.K E W φ I D (mForL g a (ds.drop (i + 1)) st), fun σ' H' h => ⟨m - 1, by omega, by omega, h⟩, fun v H' hy => ?_⟩
    obtain ⟨I3, R3, S3, hv⟩ := yld v H' hy
    have g3 := S3.grow
    replace p2 : Ps X.K E W φ2 I2 D (match g ds[i] st2 with
      | some st1 => match a st1 with
        | .nx st' => mForL g a (ds.drop (i + 1)) st'
        | .ct st' => mForL g a (ds.drop (i + 1)) st'
        | .bk st' => .nx st'
        | o => o
      | none => .stuck) := p2
    cases e : g ds[i] st2 with
    | none => rw [e] at p2; exact p2.elim
    | some st4 =>
      rw [e] at p2
      refine ⟨st2, φ2, I3, ds[i], st4, R3, hv, e, fun σ4 _ R4 => ⟨st4, φ2, I3, R4, ?_⟩⟩
      have g24 := g3
      replace p2 := Ps.grow g24 p2
      simp only at p2
      cases e2 : a st4 with
      | nx st5 => rw [e2] at p2; exact fun σ5 H5 φ5 I5 g5 R5 => ⟨st5, φ5, I5, R5, g2.trans (g24.trans g5), Ps.grow g5 p2⟩
      | ct st5 => rw [e2] at p2; exact fun σ5 H5 φ5 I5 g5 R5 => ⟨st5, φ5, I5, R5, g2.trans (g24.trans g5), Ps.grow g5 p2⟩
      | bk st5 => rw [e2] at p2; exact p2
      | rt r st5 => rw [e2] at p2; exact p2
      | exc r st5 => rw [e2] at p2; exact p2
      | stuck => rw [e2] at p2; exact p2
  · refine .inl ⟨h2 (by omega), ?_⟩
    rw [List.drop_eq_nil_of_le (by omega)] at p2
    exact p2 σ2 H2 φ2 I2 Grow.refl R2
end
end PM

set_option Elab.async false
set_option linter.all false
set_option maxRecDepth 100000
set_option maxHeartbeats 1200000
namespace PM
open PySem PySem.Spec L2

/-! ### a def as a function of its arguments and of the things -/
inductive FRes where
  | ret (r : RV) (store : List Cell) | exc (c : Exc) (store : List Cell) | stuck
abbrev Fn := List D → List Cell → FRes
def toF : SOut → FRes
  | .nx st => .ret (.sh .non) st.store
  | .rt (.sh d) st => .ret (.sh d) st.store
  | .rt (.ow c) st => .ret (.ow c) st.store
  | .exc c st => .exc c st.store
  | _ => .stuck
/-- the slots at the entry: the parameters, then as many more names -/
def entry (ds : List D) (n : Nat) : List Slot := ds.map .sh ++ List.replicate n .un
def runF (ms : MS) (n : Nat) : Fn := fun ds store => toF (ms ⟨entry ds n, store⟩)

structure Rq (K : PySem.W.Frag) (H : Hp) (store : List Cell) (φ : List Addr) (I : Hp) : Prop where
  ext : Ex I H
  nd : φ.Nodup
  len : φ.length = store.length
  cells : ∀ (i : Nat) c a, store[i]? = some c → φ[i]? = some a → c = .dead ∨ CellAt K φ I H a c
  pin : ∀ a ∈ φ, H a ≠ none
def st0 (store : List Cell) : State := ⟨[], store⟩
def Fq (K : PySem.W.Frag) (H : Hp) (φ : List Addr) (I : Hp) (Q : VK) (E : XK) : FRes → Prop
  | .ret r store' => ∀ v H' φ' I', Rp K ⟨H, φ, I⟩ [] H' (st0 store') φ' I' → Rr K ⟨H, φ, I⟩ [] H' (st0 store') φ' I' r v → Q v H'
  | .exc c store' => ∀ d H' φ' I', Rp K ⟨H, φ, I⟩ [] H' (st0 store') φ' I' → Rx K φ' I' H' c.fs d → E c.cls d H'
  | .stuck => False
/-- the promise that a def is worth F -/
def spOf (K : PySem.W.Frag) (F : Fn) : Sp := fun vs H Q E => ∃ ds store φ I, Rq K H store φ I ∧ Rvs K φ I ds vs ∧ Fq K H φ I Q E (F ds store)

/-- at f a def may be called with m places and the keywords ks; it is worth F of the arguments in the call's order -/
def FnC (P : Program) (w : World) (K : PySem.W.Frag) (mg : Str → Option Value) (base : Heap) (k : Nat) (f : Addr) (m : Nat) (ks : List Str) (F : Fn) : Prop :=
  ∀ (A : Around) (outer : List Env) (s : Shared) (H : Hp) (us : List Value) (vs : List V) (Q : VK) (E : XK), Room k A → A.guards = some [] → Env0 P w K mg base A outer s H → Vals vs us → us.length = m + ks.length → spOf K F vs H Q E →
    codeAny (model P w) A (.call (.ref f) ⟨us.take m, ks.zip (us.drop m)⟩) (CR (L2.CX P w) outer P w H s Q E) s
section
variable {P : Program} {w : World} {K : PySem.W.Frag} {mg : Str → Option Value} {base : Heap} {k : Nat} {f : Addr} {m : Nat} {ks : List Str} {F G : Fn}
theorem FnC.mono {j : Nat} (h : FnC P w K mg base k f m ks F) (hj : k ≤ j) : FnC P w K mg base j f m ks F := fun A outer s H us vs Q E hr => h A outer s H us vs Q E (hr.mono hj)
/-- F may be told otherwise, where it is asked -/
theorem FnC.eq (h : FnC P w K mg base k f m ks F) (e : ∀ ds store, G ds store ≠ .stuck → F ds store = G ds store) : FnC P w K mg base k f m ks G := fun A outer s H us vs Q E hr hg he hv hl ⟨ds, store, φ, I, hq, hvs, hf⟩ => by
  refine h A outer s H us vs Q E hr hg he hv hl ⟨ds, store, φ, I, hq, hvs, ?_⟩
  rw [e ds store (fun z => by rw [z] at hf; exact hf)]
  exact hf
end

/-! ### the body -/
section
variable {K : PySem.W.Frag} {E : Ent} {W : WX} {σ : L2.St} {H : Hp} {st : State} {φ : List Addr} {I : Hp}
theorem Rp.forget (R : Rp K E σ H st φ I) : Rp K E [] H (st0 st.store) φ I :=
  ⟨R.ext, R.keep, R.there, R.inew, R.iold, R.pre, R.pnew, R.nd, R.len, R.cells, R.pin, rfl, fun i d h => by simp [st0] at h, fun i c h => by simp [st0] at h, fun i j a h => by obtain ⟨c, h1, _⟩ := h; simp [st0] at h1⟩
theorem Rr.forget {r : RV} {v : V} (h : Rr K E σ H st φ I r v) (hl : ∀ i, r ≠ .lo i) : Rr K E [] H (st0 st.store) φ I r v := by
  cases r with
  | sh d => exact h
  | lo i => exact absurd rfl (hl i)
  | ow c =>
    obtain ⟨a, e, h1, h2, h3, _⟩ := h
    exact ⟨a, e, h1, h2, h3, fun i z => by obtain ⟨c, h1, _⟩ := z; simp [st0] at h1⟩
theorem entry_get {ds : List D} {n i : Nat} {d : D} (h : (entry ds n)[i]? = some (.sh d)) : ds[i]? = some d := by
  unfold entry at h
  by_cases hi : i < (ds.map Slot.sh).length
  · rw [List.getElem?_append_left hi, List.getElem?_map] at h
    cases e : ds[i]? with
    | none => rw [e] at h; cases h
    | some d' => rw [e] at h; cases h; rfl
  · rw [List.getElem?_append_right (by omega), List.getElem?_replicate] at h
    split at h <;> cases h
theorem entry_ow {ds : List D} {n i : Nat} {c : Cell} (h : (entry ds n)[i]? = some (.ow c)) : False := by
  unfold entry at h
  by_cases hi : i < (ds.map Slot.sh).length
  · rw [List.getElem?_append_left hi, List.getElem?_map] at h
    cases e : ds[i]? with
    | none => rw [e] at h; cases h
    | some d' => rw [e] at h; cases h
  · rw [List.getElem?_append_right (by omega), List.getElem?_replicate] at h
    split at h <;> cases h
/-- at the entry -/
theorem Rq.enter {store : List Cell} {N : List Str} {ds : List D} {vs : List V} (q : Rq K H store φ I) (h : Rvs K φ I ds vs) (hl : ds.length ≤ N.length) : Rp K ⟨H, φ, I⟩ (L2.start N vs) H ⟨entry ds (N.length - ds.length), store⟩ φ I := by
  refine ⟨q.ext, fun _ _ e _ => e, fun _ h => h, fun a h n => absurd n h, Ex.refl _, ⟨[], by simp⟩, fun a h => .inl h, q.nd, q.len, q.cells, q.pin, ?_, fun i d e => ?_, fun i c e => (entry_ow e).elim, fun i j a z => ?_⟩
  · show (entry ds _).length = (L2.start N vs).length
    unfold entry L2.start
    simp only [List.length_append, List.length_map, List.length_replicate]
    rw [h.len]
  · have e1 := entry_get e
    obtain ⟨v, h1, h2⟩ := h.get e1
    have hi : i < vs.length := (List.getElem?_eq_some_iff.mp h1).1
    refine ⟨v, ?_, h2⟩
    unfold L2.start
    rw [List.getElem?_append_left (by simpa using hi), List.getElem?_map, h1]
    rfl
  · obtain ⟨c, h1, _⟩ := z
    exact (entry_ow h1).elim
end

section
variable {P : Program} {w : World} {K : PySem.W.Frag} {mg : Str → Option Value} {base : Heap} {k : Nat} {f : Addr} {m : Nat} {ks : List Str} {name qual : Str} {params : Arguments} {body : List Stmt} {scope : Scope} {dV kV doc pm cdv ct oc : Value} {an od : Option Addr} {osl : Array (Option Value)} {N ps : List Str} {ms : MS}
/-- the end of a body's run -/
theorem rd_body {E : XK} {H : Hp} {Q : VK} {φ : List Addr} {I : Hp} {σ : L2.St} {st : State} (R : Rp K ⟨H, φ, I⟩ σ H st φ I) (h : Fq K H φ I Q E (toF (ms st))) :
    rdS K ⟨H, φ, I⟩ (fun cls d _ H => E cls d H) ms { nx := fun _ H' => Q .non H', rt := Q } σ H := by
  refine ⟨st, φ, I, R, ?_⟩
  cases e : ms st with
  | nx st' => rw [e] at h; exact fun σ' H' φ' I' _ R' => h .non H' φ' I' R'.forget .non
  | rt r st' =>
    rw [e] at h
    cases r with
    | lo i => exact h.elim
    | sh d => exact fun v σ' H' φ' I' _ R' hr => h v H' φ' I' R'.forget (hr.forget fun i z => by cases z)
    | ow c => exact fun v σ' H' φ' I' _ R' hr => h v H' φ' I' R'.forget (hr.forget fun i z => by cases z)
  | exc c st' => rw [e] at h; exact fun d σ' H' φ' I' _ R' hx => h d H' φ' I' R'.forget hx
  | bk st' => rw [e] at h; exact h.elim
  | ct st' => rw [e] at h; exact h.elim
  | stuck => rw [e] at h; exact h.elim

/-- THE RULE for a def: perm tells which of the arguments (in the call's order, the defaults behind them) goes to each parameter -/
theorem fn_c {ds0 : List Value} {dd0 : List D} {dv0 : List V} (pick : ∀ {α : Type}, List α → List α) (hpick : ∀ {α β : Type} (R : α → β → Prop) (xs : List α) (ys : List β), Paired R xs ys → Paired R (pick xs) (pick ys))
    (lk : K.lookup f = some ⟨oc, od, .func (PySem.W.fnOf name qual params body scope dV kV doc pm an cdv ct), osl⟩) (hcd : PySem.W.codeIn K cdv qual = true) (S : FnScope N ps scope)
    (hb : ∀ (s : Shared) (us : List Value), K.In s.heap → us.length = m + ks.length → BindsTo s (PySem.W.fnOf name qual params body scope dV kV doc pm an cdv ct) ⟨us.take m, ks.zip (us.drop m)⟩ (ps.zip (pick us)))
    (hlen : ∀ {α : Type} (xs : List α), xs.length = m + ks.length → (pick xs).length = ps.length)
    (hbody : ∀ (A : Around) (outer : List Env) (s : Shared) (H : Hp) (Ee : Ent) (E : XK), Room k (A.deeper (PyProof.Rows.envOfC qual scope s.heap.objs.size f cdv)) → (A.deeper (PyProof.Rows.envOfC qual scope s.heap.objs.size f cdv)).guards = some [] →
      Takes (cxOf (L2.CX P w) P w K mg base N qual scope f cdv A outer s H E) (fun cls d _ H => E cls d H) → SSs (cxOf (L2.CX P w) P w K mg base N qual scope f cdv A outer s H E) Ee (fun cls d _ H => E cls d H) body ms) :
    FnC P w K mg base (k + 1) f m ks (fun ds store => runF ms (N.length - ps.length) (pick ds) store) := by
  intro A outer s H us vs Q E hr hgd e0 hv hl ⟨ds, store, φ, I, hq, hvs, hf⟩
  have KX : K.In s.heap := e0.mod.kin.keeps fun b o e => (e0.bs b o e).1
  have hlv : vs.length = m + ks.length := by rw [hv.length]; exact hl
  have hld : ds.length = m + ks.length := by rw [hvs.len]; exact hlv
  have hp : Rvs K φ I (pick ds) (pick vs) := by
    have aux : ∀ {ds : List D} {vs : List V}, Rvs K φ I ds vs ↔ Paired (Rv K φ I) ds vs := by
      intro ds vs
      constructor
      · intro h
        induction ds generalizing vs with
        | nil => cases h; exact .nil
        | cons d ds ih => cases h with | cons h1 h2 => exact .cons h1 (ih h2)
      · intro h
        induction h with
        | nil => exact .nil
        | cons h1 _ ih => exact .cons h1 ih
    exact aux.mpr (hpick _ _ _ (aux.mp hvs))
  have hpV : Vals (pick vs) (pick us) := hpick _ _ _ hv
  refine StX.run_bnd (ps := ps) (G := fun vs' H' => vs' = pick vs ∧ H' = H) lk hcd S hr e0 (fun A' Ex Q' h' => ?_) fun s2 H2 vs' hG hr' => ?_
  · exact hb s us KX hl _ _ _ _ (h' s H (pick vs) (pick us) e0 Un.refl rfl (fun _ _ z => z) hpV (hlen _ hlv) ⟨rfl, rfl⟩)
  · obtain ⟨rfl, rfl⟩ := hG
    have hpl : ps.length ≤ N.length := by
      have := congrArg List.length S.pre
      rw [List.length_take] at this
      omega
    have hpd : (pick ds).length = ps.length := hlen _ hld
    refine ⟨_, hbody A outer s2 H2 ⟨H2, φ, I⟩ E hr' (by rw [show (A.deeper _).guards = A.guards from rfl]; exact hgd) (takes_of rfl rfl rfl rfl), ?_⟩
    refine rd_body (ms := ms) (Rq.enter hq hp (by omega)) ?_
    rw [hpd]
    exact hf
end
end PM

set_option Elab.async false
set_option linter.all false
set_option maxRecDepth 100000
set_option maxHeartbeats 1200000
namespace PM
open PySem PySem.Spec L2

section
variable {K : PySem.W.Frag} {E : Ent} {σ : L2.St} {H H' : Hp} {st : State} {φ φ' : List Addr} {I I' : Hp} {store' : List Cell}
theorem Rp.ask (R : Rp K E σ H st φ I) : Rq K H st.store φ I := ⟨R.ext, R.nd, R.len, R.cells, R.pin⟩
/-- behind a call -/
theorem Rp.after (R : Rp K E σ H st φ I) (B : Rp K ⟨H, φ, I⟩ [] H' (st0 store') φ' I') : Rp K E σ H' { st with store := store' } φ' I' ∧ Stp σ H st φ I H' { st with store := store' } φ' I' := by
  obtain ⟨more, hm⟩ := B.pre
  have hm : φ' = φ ++ more := hm
  have pf : φ <+: φ' := ⟨more, hm.symm⟩
  have nf : ∀ a ∈ φ', a ∉ φ → H a = none := fun a h n => (B.pnew a h).elim (fun z => absurd z n) id
  have own : ∀ (i : Nat) (c : Cell), st.env[i]? = some (Slot.ow c) → ∃ a, σ[i]? = some (some (V.ref a)) ∧ CellAt K φ' I' H' a c ∧ a ∉ φ' ∧ E.H0 a = none := fun i c h => by
    obtain ⟨a, h1, ⟨o, e1, e2, e3⟩, h3, h4⟩ := R.ow i c h
    refine ⟨a, h1, ⟨o, B.keep a o e1 h3, ?_, e3.mono pf B.iold⟩, fun z => ?_, h4⟩
    · cases q : I' a with
      | none => rfl
      | some u =>
        rcases B.inew a (by rw [q]; simp) e2 with z | z
        · have z : H a = none := z
          rw [e1] at z
          cases z
        · exact absurd z h3
    · have := nf a z h3
      rw [e1] at this
      cases this
  refine ⟨⟨B.ext, fun a o e n => ?_, fun a h => B.there a (R.there a h), fun a h n => ?_, R.iold.trans B.iold, ?_, fun a h => ?_, B.nd, B.len, B.cells, B.pin, R.elen, fun i d h => ?_, own, R.one⟩, ⟨pf, nf, B.iold, fun a o e n _ => B.keep a o e n, B.there, fun a h n => (B.inew a h n).elim .inl fun z => .inr (.inl z), fun _ _ h => h⟩⟩
  · refine B.keep a o (R.keep a o e n) fun z => ?_
    rcases R.pnew a z with q | q
    · exact n q
    · rw [e] at q; cases q
  · cases q : I a with
    | some u => exact R.inew a (by rw [q]; simp) n
    | none =>
      rcases B.inew a h q with z | z
      · have z : H a = none := z
        refine .inl ?_
        cases q2 : E.H0 a with
        | none => rfl
        | some o => exact absurd z (R.there a (by rw [q2]; simp))
      · exact (R.pnew a z).elim .inr .inl
  · obtain ⟨m1, e1⟩ := R.pre
    exact ⟨m1 ++ more, by rw [hm, e1, List.append_assoc]⟩
  · rcases B.pnew a h with z | z
    · exact R.pnew a z
    · have z : H a = none := z
      refine .inr ?_
      cases q2 : E.H0 a with
      | none => rfl
      | some o => exact absurd z (R.there a (by rw [q2]; simp))
  · obtain ⟨v, h1, h2⟩ := R.sh i d h
    exact ⟨v, h1, h2.mono pf B.iold⟩
theorem Rr.after (R : Rp K E σ H st φ I) {r : RV} {v : V} (h : Rr K ⟨H, φ, I⟩ [] H' (st0 store') φ' I' r v) (hl : ∀ i, r ≠ .lo i) : Rr K E σ H' { st with store := store' } φ' I' r v ∧ Nw σ H st r v := by
  cases r with
  | lo i => exact absurd rfl (hl i)
  | sh d => exact ⟨h, Nw.sh⟩
  | ow c =>
    obtain ⟨a, e, h1, h2, h3, _⟩ := h
    have h3 : H a = none := h3
    obtain ⟨f1, f2, f3, f4⟩ := R.fresh h3
    refine ⟨⟨a, e, h1, h2, f1, f4⟩, fun b c' _ e2 => ?_⟩
    rw [e] at e2
    cases e2
    exact h3
end

def ofF (st : State) : FRes → Out RV
  | .ret (.lo _) _ => .stuck
  | .ret r store => .ok r { st with store := store }
  | .exc c store => .exc c { st with store := store }
  | .stuck => .stuck
def mCall (n : Nat) (F : Fn) (args : M (List D)) : M RV := args.bind fun ds st => if ds.length = n then ofF st (F ds st.store) else .stuck
def mApp (a b : M (List D)) : M (List D) := a.bind fun xs => b.bind fun ys => M.pure (xs ++ ys)

section
variable {X : Cx} {E : Ent} {W : WX} {pos p : Pos} {k : Nat} {f : Addr} {m : Nat} {ks : List Str} {F : Fn} {x : Str} {e : Expr} {es : List Expr} {ma : M (List D)}
/-- the callee runs -/
theorem run_c {pins : List (Addr × Obj)} {σ : L2.St} {H : Hp} {s : Shared} {Q : VK} {us ws : List Value} {vs zs : List V} (hF : FnC X.prog X.w X.K X.mg X.base k f m ks F) (hr : Room k X.A) (hgd : X.A.guards = some []) (tk : Takes X W)
    (I : Inv X pins σ H s) (r : Vals vs us) (rz : Vals zs ws) (hm : us.length = m) (hk : ws.length = ks.length) (h : spOf X.K F (vs ++ zs) H Q (WE W σ)) : wpAny (model X.prog X.w) X.A (call (.ref f) us (ks.zip ws)) (EP X pins σ Q) X.xe s := by
  have h1 : (us ++ ws).take m = us := by rw [← hm]; exact List.take_left
  have h2 : (us ++ ws).drop m = ws := by rw [← hm]; exact List.drop_left
  have c := hF X.A X.stack s H (us ++ ws) (vs ++ zs) Q (WE W σ) hr hgd I.env0 (r.append rz) (by rw [List.length_append, hm, hk]) h
  rw [h1, h2] at c
  refine wpAny_call (codeAny_mono c fun r s' hq => ?_)
  cases r with
  | error e => exact passAt tk σ pins H s e s' I hq
  | ok fl =>
    cases fl with
    | ret u => exact I.after hq
    | next => exact hq.elim
    | brk => exact hq.elim
    | cont => exact hq.elim
/-- what a call's run asks of the promise -/
theorem rd_call {σ : L2.St} {H : Hp} {Q : VK} {n : Nat} (h : rdR X.K E W (mCall n F ma) σ H Q) : rdA X.K E W ma σ H fun vs H1 => vs.length = n ∧ spOf X.K F vs H1 Q (WE W σ) := by
  obtain ⟨st, φ, I, R, p⟩ := h
  refine ⟨st, φ, I, R, (Po.bind p).imp fun ds H1 st1 φ1 I1 S1 R1 q vs hv => ?_⟩
  by_cases hn : ds.length = n
  · rw [if_pos hn] at q
    refine ⟨by rw [← hv.len]; exact hn, ds, st1.store, φ1, I1, R1.ask, hv, ?_⟩
    cases e : F ds st1.store with
    | stuck => rw [e] at q; exact q.elim
    | exc c store' =>
      rw [e] at q
      intro d H' φ' I' B hx
      obtain ⟨R2, S2⟩ := R1.after B
      exact q d H' φ' I' S2 R2 hx
    | ret r store' =>
      rw [e] at q
      intro v H' φ' I' B hr
      obtain ⟨R2, S2⟩ := R1.after B
      cases r with
      | lo i => exact q.elim
      | sh d =>
        obtain ⟨hr', hn'⟩ := Rr.after R1 hr (fun i z => by cases z)
        exact q H' φ' I' S2 R2 v hr' (hn'.back S1)
      | ow c =>
        obtain ⟨hr', hn'⟩ := Rr.after R1 hr (fun i z => by cases z)
        exact q H' φ' I' S2 R2 v hr' (hn'.back S1)
  · rw [if_neg hn] at q
    exact q.elim
theorem sr_call (hF : FnC X.prog X.w X.K X.mg X.base k f m [] F) (hr : Room k X.A) (hgd : X.A.guards = some []) (tk : Takes X W) (hg : Gl X x) (hm : X.mg x = some (.ref f)) (hk : PySem.W.keepIn X.K (.ref f) = true) (ha : SA X E W (e :: es) ma)
    (hdb : (x == ("__debug__" : Str)) = false := by decide) (he : starEach (e :: es) X.env = (false, eval e X.env) :: starEach es X.env := by rfl) (hpl : (backTo pos (starEach es X.env)).any (·.1) = false := by rfl) :
    SR X E W (.Call (.Name x p) (e :: es) [] pos) (mCall m F ma) := ⟨fun pins s σ H Q I h => by
  refine wpAny_Call_Name_kw (ld_glob I hg hm ?_ hdb)
  refine PySem.W.callWith_K (h₀ := X.base) I.ok.mod.kin hk (thn (ha.run pos pins s σ H _ I (rd_call h)) fun us s1 ⟨vs, H1, I1, r, hl, q⟩ => ⟨I1.kIn, ?_⟩) he hpl
  have c := run_c (us := us) (ws := []) (vs := vs) (zs := []) hF hr hgd tk I1 r .nil (by rw [← r.length]; exact hl) rfl (by rw [List.append_nil]; exact q)
  exact c⟩
theorem sr_call0 (hF : FnC X.prog X.w X.K X.mg X.base k f 0 [] F) (hr : Room k X.A) (hgd : X.A.guards = some []) (tk : Takes X W) (hg : Gl X x) (hm : X.mg x = some (.ref f)) (hk : PySem.W.keepIn X.K (.ref f) = true)
    (hdb : (x == ("__debug__" : Str)) = false := by decide) : SR X E W (.Call (.Name x p) [] [] pos) (mCall 0 F mNil) := ⟨fun pins s σ H Q I h => by
  refine wpAny_Call_Name_kw (ld_glob I hg hm ?_ hdb)
  obtain ⟨st, φ, I0, R, q⟩ := rd_call h
  obtain ⟨_, q⟩ := q.pure R [] .nil
  exact PySem.W.callWith_K0 I.kIn hk (run_c (us := []) (ws := []) (vs := []) (zs := []) hF hr hgd tk I .nil .nil rfl rfl q)⟩
end
end PM

set_option Elab.async false
set_option linter.all false
set_option maxRecDepth 100000
set_option maxHeartbeats 1200000
namespace PM
open PySem PySem.Spec L2

/-! ### what is seen -/
section
variable {K : PySem.W.Frag} {φ : List Addr} {I H : Hp} {v : V}
theorem Seen.int {i : Int} (h : Seen K φ I H (.int i) v) : v = .int i := by
  rcases h with h | ⟨a, c, _, e, _⟩
  · cases h; rfl
  · cases c <;> cases e
theorem Seen.bl {i : Bool} (h : Seen K φ I H (.bl i) v) : v = .bl i := by
  rcases h with h | ⟨a, c, _, e, _⟩
  · cases h; rfl
  · cases c <;> cases e
theorem Seen.str {i : Str} (h : Seen K φ I H (.str i) v) : v = .str i := by
  rcases h with h | ⟨a, c, _, e, _⟩
  · cases h; rfl
  · cases c <;> cases e
theorem Seen.non (h : Seen K φ I H .non v) : v = .non := by
  rcases h with h | ⟨a, c, _, e, o, _, _, q⟩
  · cases h; rfl
  · cases c with
    | dead => cases q
    | _ => cases e
theorem Seen.tup {ds : List D} (hx : Ex I H) (h : Seen K φ I H (.tup ds) v) : ∃ a vs, v = .ref a ∧ H a = some (.tup vs) ∧ Rvs K φ I ds vs := by
  rcases h with h | ⟨a, c, _, e, _⟩
  · cases h with
    | tup h1 h2 => exact ⟨_, _, rfl, hx _ _ h1, h2⟩
  · cases c <;> cases e
theorem Seen.tpF {ds : List D} (hx : Ex I H) (h : Seen K φ I H (.tpF ds) v) : ∃ a vs, v = .ref a ∧ SqT K H a vs ∧ Rvs K φ I ds vs := by
  rcases h with h | ⟨a, c, _, e, _⟩
  · cases h with
    | tpF h1 h2 => exact ⟨_, _, rfl, sqT_mono hx h1, h2⟩
  · cases c <;> cases e
theorem Seen.lst {ds : List D} (hx : Ex I H) (h : Seen K φ I H (.lst ds) v) : ∃ a vs, v = .ref a ∧ H a = some (.lst vs) ∧ Rvs K φ I ds vs := by
  rcases h with h | ⟨a, c, rfl, e, o, h1, h2, h3⟩
  · cases h with
    | lst h1 h2 => exact ⟨_, _, rfl, hx _ _ h1, h2⟩
  · cases c <;> cases e
    cases h3 with
    | ls h3 => exact ⟨a, _, rfl, h1, h3⟩
theorem Seen.lsF {ds : List D} (hx : Ex I H) (h : Seen K φ I H (.lsF ds) v) : ∃ a vs, v = .ref a ∧ SqL K H a vs ∧ Rvs K φ I ds vs := by
  rcases h with h | ⟨a, c, _, e, _⟩
  · cases h with
    | lsF h1 h2 => exact ⟨_, _, rfl, sqL_mono hx h1, h2⟩
  · cases c <;> cases e
end
/-- a list's items, whoever holds it -/
def asL : D → Option (List D)
  | .lst ds => some ds
  | .lsF ds => some ds
  | _ => none
def asT : D → Option (List D)
  | .tup ds => some ds
  | .tpF ds => some ds
  | _ => none
theorem Seen.asL {K : PySem.W.Frag} {φ : List Addr} {I H : Hp} {v : V} {d : D} {ds : List D} (hx : Ex I H) (h : Seen K φ I H d v) (e : asL d = some ds) : ∃ a vs, v = .ref a ∧ SqL K H a vs ∧ Rvs K φ I ds vs := by
  cases d <;> simp only [PM.asL, Option.some.injEq, reduceCtorEq] at e
  · subst e
    obtain ⟨a, vs, e1, e2, e3⟩ := h.lst hx
    exact ⟨a, vs, e1, .inl (.inl e2), e3⟩
  · subst e
    exact h.lsF hx
theorem Seen.asT {K : PySem.W.Frag} {φ : List Addr} {I H : Hp} {v : V} {d : D} {ds : List D} (hx : Ex I H) (h : Seen K φ I H d v) (e : asT d = some ds) : ∃ a vs, v = .ref a ∧ SqT K H a vs ∧ Rvs K φ I ds vs := by
  cases d <;> simp only [PM.asT, Option.some.injEq, reduceCtorEq] at e
  · subst e
    obtain ⟨a, vs, e1, e2, e3⟩ := h.tup hx
    exact ⟨a, vs, e1, .inl (.inl e2), e3⟩
  · subst e
    exact h.tpF hx

section
variable {X : Cx} {E : Ent} {W : WX}
theorem op_cases {f : Value → Value → Sem Value} {r : R2} (h : ∀ v w H Q, r v w H Q → ∃ r', OpR X f r' ∧ r' v w H Q) : OpR X f r := fun pins s σ H x y v u Q I rx ry q => by
  obtain ⟨r', h1, h2⟩ := h _ _ _ _ q
  exact h1 pins s σ H x y v u Q I rx ry h2
theorem Af.sh {K : PySem.W.Frag} {σ : L2.St} {H : Hp} {st : State} {φ : List Addr} {I : Hp} {d : D} {v : V} {Q : VK} (h : Af K E σ H st φ I (.sh d) Q) (R : Rp K E σ H st φ I) (hv : Rv K φ I d v) : Q v H := h v H I Stp.refl R hv fun _ _ e => by cases e
theorem Af.tup {K : PySem.W.Frag} {σ : L2.St} {H : Hp} {st : State} {φ : List Addr} {I : Hp} {ds : List D} {vs : List V} {Q : VK} (h : Af K E σ H st φ I (.sh (.tup ds)) Q) (R : Rp K E σ H st φ I) (hv : Rvs K φ I ds vs) : ∀ p, H p = none → Q (.ref p) (upd H p (.tup vs)) := fun p hp => by
  obtain ⟨R2, S2⟩ := R.laidS hp (.tup vs)
  exact h _ _ _ S2 R2 (.tup upd_same (hv.mono S2.pf S2.ii)) fun _ _ e => by cases e
theorem Af.lst {K : PySem.W.Frag} {σ : L2.St} {H : Hp} {st : State} {φ : List Addr} {I : Hp} {ds : List D} {vs : List V} {Q : VK} (h : Af K E σ H st φ I (.ow (.ls ds)) Q) (R : Rp K E σ H st φ I) (hv : Rvs K φ I ds vs) : ∀ p, H p = none → Q (.ref p) (upd H p (.lst vs)) := fun p hp => by
  obtain ⟨R2, S2⟩ := R.laidO hp (.lst vs)
  obtain ⟨h0, hφ, hI, ho⟩ := R.fresh hp
  exact h _ _ _ S2 R2 ⟨p, rfl, ⟨_, upd_same, hI, .ls hv⟩, hφ, h0, ho⟩ fun a c _ e => by cases e; exact hp

/-! ### numbers -/
/-- of a size that is reckoned with -/
def sml (i : Int) : Bool := decide (i.natAbs.log2 < 400000)
def opAdd : D → D → Option RV
  | .int i, .int j => some (.sh (.int (i + j)))
  | .str a, .str b => if a.length + b.length ≤ lim then some (.sh (.str (a ++ b))) else none
  | .lst a, .lst b => if a.length + b.length ≤ lim then some (.ow (.ls (a ++ b))) else none
  | .tup a, .tup b => if a.length + b.length ≤ lim then some (.sh (.tup (a ++ b))) else none
  | _, _ => none
def opSub : D → D → Option RV
  | .int i, .int j => some (.sh (.int (i - j)))
  | _, _ => none
def opMul : D → D → Option RV
  | .int i, .int j => if sml i && sml j then some (.sh (.int (i * j))) else none
  | _, _ => none
def opFdv : D → D → Option RV
  | .int i, .int j => if 0 < j ∧ j.natAbs.log2 < 9000 then some (.sh (.int (i / j))) else if j < 0 ∧ j.natAbs.log2 < 9000 then some (.sh (.int (i.fdiv j))) else none
  | _, _ => none
def opMod : D → D → Option RV
  | .int i, .int j => if 0 < j then some (.sh (.int (i % j))) else none
  | _, _ => none
def opPow : D → D → Option RV
  | .int i, .int j => if 0 ≤ j ∧ j ≤ 1000 ∧ i.natAbs < 2 ^ 64 then some (.sh (.int (i ^ j.toNat))) else none
  | _, _ => none
def opNeg : D → Option RV
  | .int i => some (.sh (.int (-i)))
  | _ => none
theorem os_add : OpS X E (binaryOp .Add) opAdd := op_cases fun v w H Q ⟨σ, st, φ, I, x, y, r, R, hx, hy, e, q⟩ => by
  cases x <;> try (simp [opAdd] at e; done)
  all_goals cases y <;> try (simp [opAdd] at e; done)
  · simp only [opAdd, Option.some.injEq] at e
    subst e
    exact ⟨_, op_add, _, _, hx.int, hy.int, q.sh R (.int _)⟩
  · rename_i a b
    simp only [opAdd] at e
    by_cases h : a.length + b.length ≤ lim
    · rw [if_pos h] at e
      cases e
      exact ⟨_, op_add_str, _, _, hx.str, hy.str, Nat.le_trans h lim_le, q.sh R (.str _)⟩
    · rw [if_neg h] at e
      cases e
  · rename_i a b
    simp only [opAdd] at e
    by_cases h : a.length + b.length ≤ lim
    · rw [if_pos h] at e
      cases e
      obtain ⟨p, vs, rfl, h1, h2⟩ := hx.tup R.ext
      obtain ⟨p', ws, rfl, h3, h4⟩ := hy.tup R.ext
      have back : ∀ {z : D} {u : V}, Seen X.K φ I H z u → (∃ l, z = .tup l) → Rv X.K φ I z u := fun hz ⟨l, hl⟩ => hz.elim id fun ⟨_, c, _, e, _⟩ => by subst hl; cases c <;> cases e
      refine ⟨_, op_catA, p, p', vs, ws, rfl, rfl, .inl (.inl h1), .inl (.inl h3), ?_, fun z => ?_, fun _ z => ?_, fun _ _ => q.tup R (h2.append h4)⟩
      · rw [← h2.len, ← h4.len]
        exact Nat.le_trans h lim_le
      · subst z
        cases h2
        exact q.sh R (back hy ⟨_, rfl⟩)
      · subst z
        cases h4
        rw [List.append_nil] at q
        exact q.sh R (back hx ⟨_, rfl⟩)
    · rw [if_neg h] at e
      cases e
  · rename_i a b
    simp only [opAdd] at e
    by_cases h : a.length + b.length ≤ lim
    · rw [if_pos h] at e
      cases e
      obtain ⟨p, vs, rfl, h1, h2⟩ := hx.lst R.ext
      obtain ⟨p', ws, rfl, h3, h4⟩ := hy.lst R.ext
      exact ⟨_, op_cat, p, p', vs, ws, rfl, rfl, h1, h3, by rw [← h2.len, ← h4.len]; exact Nat.le_trans h lim_le, q.lst R (h2.append h4)⟩
    · rw [if_neg h] at e
      cases e
theorem os_sub : OpS X E (binaryOp .Sub) opSub := op_cases fun v w H Q ⟨σ, st, φ, I, x, y, r, R, hx, hy, e, q⟩ => by
  cases x <;> try (simp [opSub] at e; done)
  all_goals cases y <;> try (simp [opSub] at e; done)
  simp only [opSub, Option.some.injEq] at e
  subst e
  exact ⟨_, op_sub, _, _, hx.int, hy.int, q.sh R (.int _)⟩
theorem os_mul : OpS X E (binaryOp .Mult) opMul := op_cases fun v w H Q ⟨σ, st, φ, I, x, y, r, R, hx, hy, e, q⟩ => by
  cases x <;> try (simp [opMul] at e; done)
  all_goals cases y <;> try (simp [opMul] at e; done)
  rename_i i j
  simp only [opMul] at e
  by_cases h : (sml i && sml j) = true
  · rw [if_pos h] at e
    cases e
    have h1 := of_decide_eq_true (Bool.and_eq_true_iff.mp h).1
    have h2 := of_decide_eq_true (Bool.and_eq_true_iff.mp h).2
    exact ⟨_, op_mulW, _, _, hx.int, hy.int, by unfold CMulW; omega, q.sh R (.int _)⟩
  · rw [if_neg h] at e
    cases e
theorem op_fdivX : OpR X (binaryOp .FloorDiv) (rI (fun _ j => j ≠ 0 ∧ j.natAbs.log2 < 9000) fun i j => .int (i.fdiv j)) := opI fun i j _ _ _ _ _ hc q => PyProof.Rows.floordiv_int hc.1 q (.inl (PyProof.noPylong_of_log2 hc.2))
theorem os_fdv : OpS X E (binaryOp .FloorDiv) opFdv := op_cases fun v w H Q ⟨σ, st, φ, I, x, y, r, R, hx, hy, e, q⟩ => by
  cases x <;> try (simp [opFdv] at e; done)
  all_goals cases y <;> try (simp [opFdv] at e; done)
  rename_i i j
  simp only [opFdv] at e
  by_cases h : 0 < j ∧ j.natAbs.log2 < 9000
  · rw [if_pos h] at e
    cases e
    exact ⟨_, op_fdivW, _, _, hx.int, hy.int, h, q.sh R (.int _)⟩
  · rw [if_neg h] at e
    by_cases h : j < 0 ∧ j.natAbs.log2 < 9000
    · rw [if_pos h] at e
      cases e
      exact ⟨_, op_fdivX, _, _, hx.int, hy.int, ⟨by omega, h.2⟩, q.sh R (.int _)⟩
    · rw [if_neg h] at e
      cases e
theorem os_mod : OpS X E (binaryOp .Mod) opMod := op_cases fun v w H Q ⟨σ, st, φ, I, x, y, r, R, hx, hy, e, q⟩ => by
  cases x <;> try (simp [opMod] at e; done)
  all_goals cases y <;> try (simp [opMod] at e; done)
  rename_i i j
  simp only [opMod] at e
  by_cases h : 0 < j
  · rw [if_pos h] at e
    cases e
    exact ⟨_, op_mod, _, _, hx.int, hy.int, h, q.sh R (.int _)⟩
  · rw [if_neg h] at e
    cases e
theorem os_pow : OpS X E (binaryOp .Pow) opPow := op_cases fun v w H Q ⟨σ, st, φ, I, x, y, r, R, hx, hy, e, q⟩ => by
  cases x <;> try (simp [opPow] at e; done)
  all_goals cases y <;> try (simp [opPow] at e; done)
  rename_i i j
  simp only [opPow] at e
  by_cases h : 0 ≤ j ∧ j ≤ 1000 ∧ i.natAbs < 2 ^ 64
  · rw [if_pos h] at e
    cases e
    exact ⟨_, op_pow, _, _, hx.int, hy.int, ⟨h.1, by omega, h.2.2⟩, q.sh R (.int _)⟩
  · rw [if_neg h] at e
    cases e
theorem un_cases {f : Value → Sem Value} {r : V → Hp → VK → Prop} (h : ∀ v H Q, r v H Q → ∃ r', UnR X f r' ∧ r' v H Q) : UnR X f r := fun pins s σ H x v Q I rx q => by
  obtain ⟨r', h1, h2⟩ := h _ _ _ q
  exact h1 pins s σ H x v Q I rx h2
theorem us_neg : UnR X (unaryOp .USub) (rdU X.K E opNeg) := un_cases fun v H Q ⟨σ, st, φ, I, x, r, R, hx, e, q⟩ => by
  cases x <;> try (simp [opNeg] at e; done)
  simp only [opNeg, Option.some.injEq] at e
  subst e
  exact ⟨_, un_neg, _, hx.int, q.sh R (.int _)⟩

/-! ### order, equality -/
def opLt : D → D → Option Bool
  | .int i, .int j => some (decide (i < j))
  | .str a, .str b => some (decide (a.cps.toList < b.cps.toList))
  | _, _ => none
def opLe : D → D → Option Bool
  | .int i, .int j => some (decide (i ≤ j))
  | .str a, .str b => some (!decide (b.cps.toList < a.cps.toList))
  | _, _ => none
def opGt : D → D → Option Bool
  | .int i, .int j => some (decide (j < i))
  | .str a, .str b => some (decide (b.cps.toList < a.cps.toList))
  | _, _ => none
def opGe : D → D → Option Bool
  | .int i, .int j => some (decide (j ≤ i))
  | .str a, .str b => some (!decide (a.cps.toList < b.cps.toList))
  | _, _ => none
theorem ob_lt : OpB X E (compareOp .Lt) opLt := op_cases fun v w H Q ⟨σ, st, φ, I, x, y, r, R, hx, hy, e, q⟩ => by
  cases x <;> try (simp [opLt] at e; done)
  all_goals cases y <;> try (simp [opLt] at e; done)
  all_goals (simp only [opLt, Option.some.injEq] at e; subst e)
  · exact ⟨_, op_lt, _, _, hx.int, hy.int, q⟩
  · exact ⟨_, op_lt_str, _, _, hx.str, hy.str, q⟩
theorem ob_le : OpB X E (compareOp .LtE) opLe := op_cases fun v w H Q ⟨σ, st, φ, I, x, y, r, R, hx, hy, e, q⟩ => by
  cases x <;> try (simp [opLe] at e; done)
  all_goals cases y <;> try (simp [opLe] at e; done)
  all_goals (simp only [opLe, Option.some.injEq] at e; subst e)
  · exact ⟨_, op_le, _, _, hx.int, hy.int, q⟩
  · exact ⟨_, op_le_str, _, _, hx.str, hy.str, q⟩
theorem ob_gt : OpB X E (compareOp .Gt) opGt := op_cases fun v w H Q ⟨σ, st, φ, I, x, y, r, R, hx, hy, e, q⟩ => by
  cases x <;> try (simp [opGt] at e; done)
  all_goals cases y <;> try (simp [opGt] at e; done)
  all_goals (simp only [opGt, Option.some.injEq] at e; subst e)
  · exact ⟨_, op_gt, _, _, hx.int, hy.int, q⟩
  · exact ⟨_, op_gt_str, _, _, hx.str, hy.str, q⟩
theorem ob_ge : OpB X E (compareOp .GtE) opGe := op_cases fun v w H Q ⟨σ, st, φ, I, x, y, r, R, hx, hy, e, q⟩ => by
  cases x <;> try (simp [opGe] at e; done)
  all_goals cases y <;> try (simp [opGe] at e; done)
  all_goals (simp only [opGe, Option.some.injEq] at e; subst e)
  · exact ⟨_, op_ge, _, _, hx.int, hy.int, q⟩
  · exact ⟨_, op_ge_str, _, _, hx.str, hy.str, q⟩
mutual
def D.py : D → Option PyData
  | .non => some .none
  | .bl b => some (.bool b)
  | .int i => some (.int i)
  | .str s => some (.str s)
  | .tup ds => (D.pys ds).map .tuple
  | .tpF ds => (D.pys ds).map .tuple
  | .lst ds => (D.pys ds).map .list
  | .lsF ds => (D.pys ds).map .list
  | _ => none
def D.pys : List D → Option (List PyData)
  | [] => some []
  | d :: ds => (D.py d).bind fun p => (D.pys ds).map fun ps => p :: ps
end
theorem dp_of {K : PySem.W.Frag} {φ : List Addr} {I H : Hp} (hx : Ex I H) {d : D} {v : V} (h : Rv K φ I d v) : ∀ {p : PyData}, D.py d = some p → Dp K H v p := by
  refine Rv.rec (motive_1 := fun d v _ => ∀ {p : PyData}, D.py d = some p → Dp K H v p) (motive_2 := fun ds vs _ => ∀ {ps : List PyData}, D.pys ds = some ps → DpAll K H vs ps) ?_ ?_ ?_ ?_ ?_ ?_ ?_ ?_ ?_ ?_ ?_ ?_ ?_ ?_ ?_ h
  · intro p e; simp only [D.py, Option.some.injEq] at e; subst e; exact .non
  · intro b p e; simp only [D.py, Option.some.injEq] at e; subst e; exact .bl b
  · intro i p e; simp only [D.py, Option.some.injEq] at e; subst e; exact .int i
  · intro s p e; simp only [D.py, Option.some.injEq] at e; subst e; exact .str s
  · intro a vs ds h1 _ ih p e
    simp only [D.py] at e
    obtain ⟨ps, e1, rfl⟩ := Option.map_eq_some_iff.mp e
    exact .tup (.inl (.inl (hx _ _ h1))) (ih e1)
  · intro a vs ds h1 _ ih p e
    simp only [D.py] at e
    obtain ⟨ps, e1, rfl⟩ := Option.map_eq_some_iff.mp e
    exact .tup (sqT_mono hx h1) (ih e1)
  · intro a vs ds h1 _ ih p e
    simp only [D.py] at e
    obtain ⟨ps, e1, rfl⟩ := Option.map_eq_some_iff.mp e
    exact .lst (.inl (.inl (hx _ _ h1))) (ih e1)
  · intro a vs ds h1 _ ih p e
    simp only [D.py] at e
    obtain ⟨ps, e1, rfl⟩ := Option.map_eq_some_iff.mp e
    exact .lst (sqL_mono hx h1) (ih e1)
  · intro a us kvs h1 h2 _ ih p e; simp [D.py] at e
  · intro a us kvs h1 h2 _ ih p e; simp [D.py] at e
  · intro n a h1 p e; simp [D.py] at e
  · intro C a dx us fs h1 h2 _ ih p e; simp [D.py] at e
  · intro v p e; simp [D.py] at e
  · intro ps e; simp only [D.pys, Option.some.injEq] at e; subst e; exact .nil
  · intro d v ds vs _ _ ih1 ih2 ps e
    simp only [D.pys] at e
    obtain ⟨p, e1, e2⟩ := Option.bind_eq_some_iff.mp e
    obtain ⟨qs, e3, rfl⟩ := Option.map_eq_some_iff.mp e2
    exact .cons (ih1 e1) (ih2 e3)
theorem dps_of {K : PySem.W.Frag} {φ : List Addr} {I H : Hp} (hx : Ex I H) {ds : List D} {vs : List V} (h : Rvs K φ I ds vs) {ps : List PyData} (e : D.pys ds = some ps) : DpAll K H vs ps := by
  induction ds generalizing vs ps with
  | nil => cases h; simp only [D.pys, Option.some.injEq] at e; subst e; exact .nil
  | cons d ds ih =>
    cases h with
    | cons h1 h2 =>
      simp only [D.pys] at e
      obtain ⟨p, e1, e2⟩ := Option.bind_eq_some_iff.mp e
      obtain ⟨qs, e3, rfl⟩ := Option.map_eq_some_iff.mp e2
      exact .cons (dp_of hx h1 e1) (ih h2 e3)
theorem Seen.dp {K : PySem.W.Frag} {φ : List Addr} {I H : Hp} {v : V} {d : D} {p : PyData} (hx : Ex I H) (h : Seen K φ I H d v) (e : D.py d = some p) : Dp K H v p := by
  rcases h with h | ⟨a, c, rfl, rfl, o, h1, h2, h3⟩
  · exact dp_of hx h e
  · cases h3 with
    | ls h3 =>
      simp only [Cell.frz, D.py] at e
      obtain ⟨ps, e1, rfl⟩ := Option.map_eq_some_iff.mp e
      exact .lst (.inl (.inl h1)) (dps_of hx h3 e1)
    | dc _ _ => simp [Cell.frz, D.py] at e
    | dt _ _ => simp [Cell.frz, D.py] at e
    | ins _ _ => simp [Cell.frz, D.py] at e
def opEq (x y : D) : Option Bool := x.py.bind fun p => y.py.bind fun q => if SeqAt.shaped p && SeqAt.shaped q then some (PyData.eqv p q) else none
def opNe (x y : D) : Option Bool := (opEq x y).map (!·)
theorem opEq_some {x y : D} {b : Bool} (e : opEq x y = some b) : ∃ p q, x.py = some p ∧ y.py = some q ∧ SeqAt.shaped p = true ∧ SeqAt.shaped q = true ∧ b = PyData.eqv p q := by
  unfold opEq at e
  obtain ⟨p, e1, e⟩ := Option.bind_eq_some_iff.mp e
  obtain ⟨q, e2, e⟩ := Option.bind_eq_some_iff.mp e
  by_cases h : (SeqAt.shaped p && SeqAt.shaped q) = true
  · rw [if_pos h] at e
    exact ⟨p, q, e1, e2, (Bool.and_eq_true_iff.mp h).1, (Bool.and_eq_true_iff.mp h).2, (Option.some.inj e).symm⟩
  · rw [if_neg h] at e
    cases e
theorem ob_eq (hu : X.A.units + 64 < cLine) : OpB X E (compareOp .Eq) opEq := op_cases fun v w H Q ⟨σ, st, φ, I, x, y, r, R, hx, hy, e, q⟩ => by
  obtain ⟨p1, p2, e1, e2, s1, s2, rfl⟩ := opEq_some e
  exact ⟨_, op_eqD hu, p1, p2, hx.dp R.ext e1, hy.dp R.ext e2, s1, s2, q⟩
theorem ob_ne (hu : X.A.units + 64 < cLine) : OpB X E (compareOp .NotEq) opNe := op_cases fun v w H Q ⟨σ, st, φ, I, x, y, r, R, hx, hy, e, q⟩ => by
  obtain ⟨b, e', rfl⟩ := Option.map_eq_some_iff.mp e
  obtain ⟨p1, p2, e1, e2, s1, s2, rfl⟩ := opEq_some e'
  exact ⟨_, op_neD hu, p1, p2, hx.dp R.ext e1, hy.dp R.ext e2, s1, s2, q⟩
/-- x is None, x is not None -/
def D.isNon : D → Bool
  | .non => true
  | _ => false
theorem Seen.isN {K : PySem.W.Frag} {φ : List Addr} {I H : Hp} {v : V} {d : D} (h : Seen K φ I H d v) (hv : ∀ u, d ≠ .val u) : decide (v = .non) = d.isNon := by
  cases d with
  | non => rw [h.non]; rfl
  | val u => exact absurd rfl (hv u)
  | _ =>
    rcases h with h | ⟨a, c, rfl, e, _⟩
    · cases h <;> rfl
    · rfl
def isVal : D → Bool
  | .val _ => true
  | _ => false
def opIs (x y : D) : Option Bool := if isVal x then none else match y with
  | .non => some x.isNon
  | _ => none
def opIsNot (x y : D) : Option Bool := (opIs x y).map (!·)
theorem opIs_some {x y : D} {b : Bool} (e : opIs x y = some b) : y = .non ∧ (∀ u, x ≠ .val u) ∧ b = x.isNon := by
  unfold opIs at e
  by_cases h : isVal x = true
  · rw [if_pos h] at e; cases e
  · rw [if_neg h] at e
    cases y <;> simp only [Option.some.injEq, reduceCtorEq] at e
    exact ⟨rfl, fun u z => h (by rw [z]; rfl), e.symm⟩
theorem ob_is : OpB X E (compareOp .Is) opIs := op_cases fun v w H Q ⟨σ, st, φ, I, x, y, r, R, hx, hy, e, q⟩ => by
  obtain ⟨rfl, hv, rfl⟩ := opIs_some e
  refine ⟨_, op_isN, hy.non, ?_⟩
  rw [hx.isN hv]
  exact q
theorem ob_isnot : OpB X E (compareOp .IsNot) opIsNot := op_cases fun v w H Q ⟨σ, st, φ, I, x, y, r, R, hx, hy, e, q⟩ => by
  obtain ⟨b, e', rfl⟩ := Option.map_eq_some_iff.mp e
  obtain ⟨rfl, hv, rfl⟩ := opIs_some e'
  refine ⟨_, op_notN, hy.non, ?_⟩
  rw [hx.isN hv]
  exact q
end
end PM

set_option Elab.async false
set_option linter.all false
set_option maxRecDepth 100000
set_option maxHeartbeats 1200000
namespace PM
open PySem PySem.Spec L2

/-! ### tables -/
section
variable {κ : Type} [DecidableEq κ]
def dget (kvs : List (κ × D)) (k : κ) : Option D := (kvs.find? fun kv => decide (kv.1 = k)).map (·.2)
def dput (kvs : List (κ × D)) (k : κ) (d : D) : List (κ × D) :=
  if (kvs.any fun kv => decide (kv.1 = k)) = true then kvs.map (fun kv => if kv.1 = k then (kv.1, d) else kv) else kvs ++ [(k, d)]
variable {K : PySem.W.Frag} {φ : List Addr} {I : Hp}
theorem dget_rel : ∀ {kvs : List (κ × D)} {us : List (κ × V)} {k : κ}, us.map (·.1) = kvs.map (·.1) → Rvs K φ I (kvs.map (·.2)) (us.map (·.2)) → (∃ d v, dget kvs k = some d ∧ valV us k = some v ∧ Rv K φ I d v) ∨ (dget kvs k = none ∧ valV us k = none)
  | [], [], k, _, _ => .inr ⟨rfl, rfl⟩
  | [], _ :: _, _, h, _ => by cases h
  | _ :: _, [], _, h, _ => by cases h
  | (a, d) :: kvs, (b, v) :: us, k, h, hr => by
    simp only [List.map_cons, List.cons.injEq] at h hr
    obtain ⟨rfl, h⟩ := h
    cases hr with
    | cons h1 h2 =>
      by_cases e : b = k
      · exact .inl ⟨d, v, by simp [dget, List.find?_cons, e], by simp [valV, List.find?_cons, e], h1⟩
      · have e1 : dget ((b, d) :: kvs) k = dget kvs k := by simp [dget, List.find?_cons, e]
        have e2 : valV ((b, v) :: us) k = valV us k := by simp [valV, List.find?_cons, e]
        rw [e1, e2]
        exact dget_rel h h2
theorem dput_len (kvs : List (κ × D)) (k : κ) (d : D) : (dput kvs k d).length ≤ kvs.length + 1 := by
  unfold dput
  split
  · rw [List.length_map]; omega
  · rw [List.length_append]; exact Nat.le_refl _
theorem dput_rel {kvs : List (κ × D)} {us : List (κ × V)} {k : κ} {d : D} {v : V} (h : us.map (·.1) = kvs.map (·.1)) (hr : Rvs K φ I (kvs.map (·.2)) (us.map (·.2))) (hv : Rv K φ I d v) :
    (putK us k v).map (·.1) = (dput kvs k d).map (·.1) ∧ Rvs K φ I ((dput kvs k d).map (·.2)) ((putK us k v).map (·.2)) := by
  have ha : ∀ {kvs : List (κ × D)} {us : List (κ × V)}, us.map (·.1) = kvs.map (·.1) → (us.any fun kv => decide (kv.1 = k)) = kvs.any fun kv => decide (kv.1 = k) := by
    intro kvs us h
    have e1 : (us.any fun kv => decide (kv.1 = k)) = (us.map (·.1)).any fun x => decide (x = k) := by rw [List.any_map]; rfl
    have e2 : (kvs.any fun kv => decide (kv.1 = k)) = (kvs.map (·.1)).any fun x => decide (x = k) := by rw [List.any_map]; rfl
    rw [e1, e2, h]
  unfold dput putK
  rw [ha h]
  split
  · clear ha
    rename_i hh
    clear hh
    induction kvs generalizing us with
    | nil =>
      cases us with
      | nil => exact ⟨rfl, .nil⟩
      | cons _ _ => cases h
    | cons kv kvs ih =>
      cases us with
      | nil => cases h
      | cons u us =>
        simp only [List.map_cons, List.cons.injEq] at h hr
        cases hr with
        | cons h1 h2 =>
          obtain ⟨i1, i2⟩ := ih h.2 h2
          simp only [List.map_cons]
          by_cases e : u.1 = k
          · have e' : kv.1 = k := h.1 ▸ e
            rw [if_pos e, if_pos e']
            exact ⟨by rw [i1, h.1], .cons hv i2⟩
          · have e' : ¬ kv.1 = k := h.1 ▸ e
            rw [if_neg e, if_neg e']
            exact ⟨by rw [i1, h.1], .cons h1 i2⟩
  · simp only [List.map_append, List.map_cons, List.map_nil]
    exact ⟨by rw [h], hr.append (.cons hv .nil)⟩
end
def asKey : D → Option Key
  | .int i => some (.inl i)
  | .str s => some (.inr s)
  | _ => none
def asKeys : List D → Option (List Key)
  | [] => some []
  | d :: ds => (asKey d).bind fun k => (asKeys ds).map fun ks => k :: ks
section
variable {K : PySem.W.Frag} {φ : List Addr} {I H : Hp}
theorem asKey_rv {d : D} {v : V} {k : Key} (h : Rv K φ I d v) (e : asKey d = some k) : v = kV k := by
  cases h <;> simp only [asKey, Option.some.injEq, reduceCtorEq] at e
  · subst e; rfl
  · subst e; rfl
theorem asKey_seen {d : D} {v : V} {k : Key} (h : Seen K φ I H d v) (e : asKey d = some k) : v = kV k := by
  rcases h with h | ⟨a, c, _, rfl, _⟩
  · exact asKey_rv h e
  · cases c <;> cases e
theorem asKeys_rv : ∀ {ds : List D} {vs : List V} {ks : List Key}, Rvs K φ I ds vs → asKeys ds = some ks → vs = ks.map kV
  | [], _, ks, .nil, e => by simp only [asKeys, Option.some.injEq] at e; subst e; rfl
  | d :: ds, _, ks, .cons h1 h2, e => by
    simp only [asKeys] at e
    obtain ⟨k, e1, e2⟩ := Option.bind_eq_some_iff.mp e
    obtain ⟨r, e3, rfl⟩ := Option.map_eq_some_iff.mp e2
    rw [List.map_cons, asKey_rv h1 e1, asKeys_rv h2 e3]
theorem Seen.dct {kvs : List (Key × D)} {v : V} (hx : Ex I H) (h : Seen K φ I H (.dct kvs) v) : ∃ a us, v = .ref a ∧ Rd H a (.dK us) ∧ us.map (·.1) = kvs.map (·.1) ∧ Rvs K φ I (kvs.map (·.2)) (us.map (·.2)) := by
  rcases h with h | ⟨a, c, rfl, e, o, h1, h2, h3⟩
  · cases h with
    | dct h1 h2 h3 => exact ⟨_, _, rfl, rd_mono hx h1, h2, h3⟩
  · cases c <;> cases e
    cases h3 with
    | dc h3 h4 => exact ⟨a, _, rfl, .inl h1, h3, h4⟩
theorem Seen.dcT {kvs : List (List Key × D)} {v : V} (hx : Ex I H) (h : Seen K φ I H (.dcT kvs) v) : ∃ a us, v = .ref a ∧ Rd H a (.dT us) ∧ us.map (·.1) = kvs.map (·.1) ∧ Rvs K φ I (kvs.map (·.2)) (us.map (·.2)) := by
  rcases h with h | ⟨a, c, rfl, e, o, h1, h2, h3⟩
  · cases h with
    | dcT h1 h2 h3 => exact ⟨_, _, rfl, rd_mono hx h1, h2, h3⟩
  · cases c <;> cases e
    cases h3 with
    | dt h3 h4 => exact ⟨a, _, rfl, .inl h1, h3, h4⟩
theorem Rvs.atI {ds : List D} {vs : List V} (h : Rvs K φ I ds vs) {i : Int} {d : D} (e : L2.atI ds i = some d) : ∃ v, L2.atI vs i = some v ∧ Rv K φ I d v := by
  unfold L2.atI at e ⊢
  rw [← h.len]
  obtain ⟨j, e1, e2⟩ := Option.bind_eq_some_iff.mp e
  rw [e1]
  exact h.get e2
end
/-- x[y] -/
def opIx : D → D → Option RV
  | .lst ds, .int i => (atI ds i).map .sh
  | .lsF ds, .int i => (atI ds i).map .sh
  | .tup ds, .int i => (atI ds i).map .sh
  | .tpF ds, .int i => (atI ds i).map .sh
  | .str z, .int i => if z.length ≤ lim then (atI z.cps.toList i).map fun c => .sh (.str ⟨#[c]⟩) else none
  | .dct kvs, k => (asKey k).bind fun k => (dget kvs k).map .sh
  | .dcT kvs, .tup ks => (asKeys ks).bind fun ks => (dget kvs ks).map .sh
  | _, _ => none
section
variable {X : Cx} {E : Ent} {W : WX} {pos : Pos} {a b c e : Expr} {ma mb mc : M RV}
theorem ix_cases {r : R2} (h : ∀ v w H Q, r v w H Q → ∃ r', IxR X r' ∧ r' v w H Q) : IxR X r := fun value slice pins s σ H x y v u Q I rx ry q hs => by
  obtain ⟨r', h1, h2⟩ := h _ _ _ _ q
  exact h1 value slice pins s σ H x y v u Q I rx ry h2 hs
theorem ix_dct (hu : X.A.units + 1 < cLine) : IxR X (fun x y H Q => ∃ a v, x = .ref a ∧ DGet H a y (some v) ∧ Q v H) := by
  intro value slice pins s σ H x y v u Q I rx ry ⟨a, z, ex, g, q⟩ hs
  subst ex
  obtain rfl : v = Value.ref a := rx
  exact PyProof.Rows.tail_any (dict_typeIs I g) PySem.F.slot_dict_getitem.lookup (d_getItem hu I g ry fun w' s3 I3 rw' => ⟨z, H, I3, rw', q⟩) hs
theorem Rp.look {σ : L2.St} {H : Hp} {st : State} {φ : List Addr} {I : Hp} {Q : VK} {r : RV} {d : D} {v : V} (q : Af X.K E σ H st φ I r Q) (R : Rp X.K E σ H st φ I) (e : r = .sh d) (hv : Rv X.K φ I d v) : Q v H := by
  subst e
  exact q.sh R hv
theorem ix_any (hu : X.A.units + 1 < cLine) : IxR X (rdO X.K E opIx) := ix_cases fun v w H Q ⟨σ, st, φ, I, x, y, r, R, hx, hy, e, q⟩ => by
  have seqT : ∀ {ds : List D} {i : Int}, asT x = some ds → y = .int i → (atI ds i).map RV.sh = some r → ∃ r', IxR X r' ∧ r' v w H Q := fun h1 h2 h3 => by
    subst h2
    obtain ⟨d, e1, rfl⟩ := Option.map_eq_some_iff.mp h3
    obtain ⟨p, vs, rfl, g1, g2⟩ := hx.asT R.ext h1
    obtain ⟨u, e2, e3⟩ := g2.atI e1
    exact ⟨_, ix_tup, p, vs, _, u, rfl, hy.int, g1, e2, q.sh R e3⟩
  have seqL : ∀ {ds : List D} {i : Int}, asL x = some ds → y = .int i → (atI ds i).map RV.sh = some r → ∃ r', IxR X r' ∧ r' v w H Q := fun h1 h2 h3 => by
    subst h2
    obtain ⟨d, e1, rfl⟩ := Option.map_eq_some_iff.mp h3
    obtain ⟨p, vs, rfl, g1, g2⟩ := hx.asL R.ext h1
    obtain ⟨u, e2, e3⟩ := g2.atI e1
    exact ⟨_, ix_list, p, vs, _, u, rfl, hy.int, g1, e2, q.sh R e3⟩
  cases x <;> try (simp [opIx] at e; done)
  · rename_i z
    cases y <;> try (simp [opIx] at e; done)
    simp only [opIx] at e
    by_cases h : z.length ≤ lim
    · rw [if_pos h] at e
      obtain ⟨c, e1, rfl⟩ := Option.map_eq_some_iff.mp e
      exact ⟨_, ix_str, z, _, c, hx.str, hy.int, Nat.le_trans h lim_le, e1, q.sh R (.str _)⟩
    · rw [if_neg h] at e
      cases e
  · cases y <;> try (simp [opIx] at e; done)
    exact seqT rfl rfl e
  · cases y <;> try (simp [opIx] at e; done)
    exact seqL rfl rfl e
  · cases y <;> try (simp [opIx] at e; done)
    exact seqL rfl rfl e
  · cases y <;> try (simp [opIx] at e; done)
    exact seqT rfl rfl e
  · rename_i kvs
    simp only [opIx] at e
    obtain ⟨k, e1, e2⟩ := Option.bind_eq_some_iff.mp e
    obtain ⟨d, e3, rfl⟩ := Option.map_eq_some_iff.mp e2
    obtain ⟨p, us, rfl, h1, h2, h3⟩ := hx.dct R.ext
    rcases dget_rel (k := k) h2 h3 with ⟨d', u, q1, q2, q3⟩ | ⟨q1, _⟩
    · rw [e3] at q1
      cases q1
      exact ⟨_, ix_dct hu, p, u, rfl, .inl ⟨us, k, h1, asKey_seen hy e1, q2.symm⟩, q.sh R q3⟩
    · rw [e3] at q1
      cases q1
  · rename_i kvs
    cases y <;> try (simp [opIx] at e; done)
    simp only [opIx] at e
    obtain ⟨k, e1, e2⟩ := Option.bind_eq_some_iff.mp e
    obtain ⟨d, e3, rfl⟩ := Option.map_eq_some_iff.mp e2
    obtain ⟨p, us, rfl, h1, h2, h3⟩ := hx.dcT R.ext
    obtain ⟨b, vs, rfl, g1, g2⟩ := hy.tup R.ext
    have ek := asKeys_rv g2 e1
    subst ek
    rcases dget_rel (k := k) h2 h3 with ⟨d', u, q1, q2, q3⟩ | ⟨q1, _⟩
    · rw [e3] at q1
      cases q1
      exact ⟨_, ix_dct hu, p, u, rfl, .inr ⟨us, k, b, h1, rfl, g1, q2.symm⟩, q.sh R q3⟩
    · rw [e3] at q1
      cases q1
theorem sr_ix (hu : X.A.units + 1 < cLine) (ha : SR X E W a ma) (hb : SR X E W b mb) (hs : PlainIx b := by exact fun _ _ => rfl) : SR X E W (.Subscript a b pos) (mOp opIx ma mb) := PEi (pe_ix (ix_any hu) (sr_bor ha) (sr_bor hb) hs) fun _ _ _ h => rd_op h

/-! ### slices -/
def cut {α : Type} (xs : List α) (lo hi : Option Int) : List α := (xs.drop (HT.sIx xs.length 0 lo)).take (HT.sIx xs.length xs.length hi - HT.sIx xs.length 0 lo)
def asPart : Option D → Option (Option Int)
  | none => some none
  | some (.int i) => some (some i)
  | _ => none
def opSl (x : D) (lo hi : Option Int) : Option RV := match x with
  | .lst ds => some (.ow (.ls (cut ds lo hi)))
  | .lsF ds => some (.ow (.ls (cut ds lo hi)))
  | .tup ds => some (.sh (.tup (cut ds lo hi)))
  | .tpF ds => if HT.sIx ds.length 0 lo = 0 ∧ HT.sIx ds.length ds.length hi = ds.length then some (.sh (.tpF ds)) else some (.sh (.tup (cut ds lo hi)))
  | .str z => if z.length ≤ lim then some (.sh (.str (cutS z lo hi))) else none
  | _ => none
def mNo : M (Option Int) := M.pure none
def mPt (m : M RV) : M (Option Int) := m.bind fun r => match r with
  | .sh (.int i) => M.pure (some i)
  | _ => M.stuck
def mSl (a : M RV) (lo hi : M (Option Int)) : M RV := a.bor.bind fun r => lo.bind fun l => hi.bind fun h => at1 (fun x => opSl x l h) r
def rdP (K : PySem.W.Frag) (E : Ent) (W : WX) (m : M (Option Int)) : TO := fun σ H Q => ∃ st φ I, Rp K E σ H st φ I ∧ Po K E W σ (m st) H st φ I fun r H' st' φ' I' => Q r H'
abbrev SP' (X : Cx) (E : Ent) (W : WX) (e : Option Expr) (m : M (Option Int)) : Prop := PO X e (rdP X.K E W m)
theorem POi {e : Option Expr} {t t' : TO} (h : PO X e t) (k : ∀ σ H Q, t' σ H Q → t σ H Q) : PO X e t' := ⟨fun p s σ H Q I q => h.run p s σ H Q I (k _ _ _ q)⟩
theorem sp_no : SP' X E W none mNo := POi po_none fun σ H Q ⟨st, φ, I, R, p⟩ => p.pure R
theorem sp_pt (h : SR X E W a ma) : SP' X E W (some a) (mPt ma) := POi (po_some h) fun σ H Q ⟨st, φ, I, R, p⟩ => by
  refine ⟨st, φ, I, R, (Po.bind p).imp fun r H1 st1 φ1 I1 S1 R1 p1 v hv _ => ?_⟩
  cases r with
  | ow c => exact p1.elim
  | lo i => exact p1.elim
  | sh d =>
    cases d <;> try (exact p1.elim)
    cases hv
    exact ⟨_, rfl, p1.pure R1⟩
def rdL (K : PySem.W.Frag) (E : Ent) : V → Option Int → Option Int → Hp → VK → Prop := fun v lo hi H Q => ∃ σ st φ I x r, Rp K E σ H st φ I ∧ Seen K φ I H x v ∧ opSl x lo hi = some r ∧ Af K E σ H st φ I r Q
theorem Rvs.cut {K : PySem.W.Frag} {φ : List Addr} {I : Hp} {ds : List D} {vs : List V} (h : Rvs K φ I ds vs) (lo hi : Option Int) : Rvs K φ I (PM.cut ds lo hi) (cutV vs lo hi) := by
  unfold PM.cut cutV
  rw [h.len]
  exact (h.drop _).take _
theorem sl_any : SlR X (rdL X.K E) := fun pins s σ' H v0 v vl vu lo hi sl Q I0 rx hs pl pu ⟨σ, st, φ, I, x, r, R, hx, e, q⟩ => by
  have go : ∀ r', SlR X r' → r' v0 lo hi H Q → ∃ T id, typeLookup (.type T) "__getitem__" = Pure.pure (some (.builtin id)) ∧ s.TypeIs v T ∧ wpAny (model X.prog X.w) X.A (getItem v (.ref sl)) (EP X pins σ' Q) X.xe s := fun r' h q' => h pins s σ' H v0 v vl vu lo hi sl Q I0 rx hs pl pu q'
  have lists : ∀ {ds : List D}, asL x = some ds → r = .ow (.ls (PM.cut ds lo hi)) → rSlL X.K v0 lo hi H Q := fun h1 h2 => by
    subst h2
    obtain ⟨p, vs, rfl, g1, g2⟩ := hx.asL R.ext h1
    exact ⟨p, vs, rfl, g1, q.lst R (g2.cut lo hi)⟩
  cases x <;> try (simp [opSl] at e; done)
  · rename_i z
    simp only [opSl] at e
    by_cases h : z.length ≤ lim
    · rw [if_pos h] at e
      cases e
      exact go _ sl_str ⟨z, hx.str, Nat.le_trans h lim_le, q.sh R (.str _)⟩
    · rw [if_neg h] at e
      cases e
  · rename_i ds
    simp only [opSl, Option.some.injEq] at e
    subst e
    obtain ⟨p, vs, rfl, g1, g2⟩ := hx.tup R.ext
    refine go _ sl_tupA ⟨p, vs, rfl, .inl (.inl g1), fun z => ?_, fun z => q.tup R (g2.cut lo hi)⟩
    have e1 : PM.cut ds lo hi = ds := by
      unfold PM.cut
      rw [g2.len, z.1, z.2]
      simp [← g2.len]
    rw [e1] at q
    exact q.sh R (hx.elim id fun ⟨_, c, _, e, _⟩ => by cases c <;> cases e)
  · simp only [opSl, Option.some.injEq] at e
    exact go _ sl_list (lists rfl e.symm)
  · simp only [opSl, Option.some.injEq] at e
    exact go _ sl_list (lists rfl e.symm)
  · rename_i ds
    simp only [opSl] at e
    obtain ⟨p, vs, rfl, g1, g2⟩ := hx.tpF R.ext
    by_cases h : HT.sIx ds.length 0 lo = 0 ∧ HT.sIx ds.length ds.length hi = ds.length
    · rw [if_pos h] at e
      cases e
      refine go _ sl_tupA ⟨p, vs, rfl, g1, fun z => q.sh R (hx.elim id fun ⟨_, c, _, e, _⟩ => by cases c <;> cases e), fun z => absurd (by rw [← g2.len]; exact h) z⟩
    · rw [if_neg h] at e
      cases e
      refine go _ sl_tupA ⟨p, vs, rfl, g1, fun z => absurd (by rw [g2.len]; exact z) h, fun z => q.tup R (g2.cut lo hi)⟩
theorem sr_sl {lo hi : Option Expr} {ml mh : M (Option Int)} {p2 : Pos} (ha : SR X E W a ma) (hl : SP' X E W lo ml) (hh : SP' X E W hi mh) : SR X E W (.Subscript a (.Slice lo hi none p2) pos) (mSl ma ml mh) := PEi (pe_slice sl_any (sr_bor ha) hl hh) fun σ H Q ⟨st, φ, I, R, p⟩ => by
  refine ⟨st, φ, I, R, (Po.bind p).imp fun x H1 st1 φ1 I1 S1 R1 p1 v hv _ => ?_⟩
  refine ⟨st1, φ1, I1, R1, (Po.bind p1).imp fun l H2 st2 φ2 I2 S2 R2 p2 => ?_⟩
  refine ⟨st2, φ2, I2, R2, (Po.bind p2).imp fun h H3 st3 φ3 I3 S3 R3 p3 => ?_⟩
  obtain ⟨x', r, ex, e, p4⟩ := Po.at1 p3
  exact ⟨σ, st3, φ3, I3, x', r, R3, hv.seen (S2.trans S3) R3 ex, e, fun u H' I' S' R' hr hn => p4 H' φ3 I' S' R' u hr (Nw.far ((S1.trans S2).trans S3).there hn)⟩

/-! ### built-ins of one and two arguments -/
def rdC1 (K : PySem.W.Frag) (E : Ent) (g : D → Option RV) : List V → Hp → VK → Prop := fun vs H Q => ∃ v, vs = [v] ∧ rdU K E g v H Q
def rdC2 (K : PySem.W.Frag) (E : Ent) (g : D → D → Option RV) : List V → Hp → VK → Prop := fun vs H Q => ∃ v w, vs = [v, w] ∧ rdO K E g v w H Q
variable {x id T : String} {x' : Str} {p : Pos} {g : D → Option RV} {g2 : D → D → Option RV}
theorem rd_c1 {σ : L2.St} {H : Hp} {Q : VK} (h : rdR X.K E W (mUn g ma) σ H Q) : tCB (rdC1 X.K E g) (tCons (rdR X.K E W ma.bor) tNil) σ H Q := by
  obtain ⟨st, φ, I, R, p⟩ := h
  refine ⟨st, φ, I, R, (Po.bind p).imp fun x H1 st1 φ1 I1 S1 R1 p1 v hv _ => ?_⟩
  obtain ⟨x', r, ex, e, p3⟩ := Po.at1 p1
  exact ⟨v, rfl, σ, st1, φ1, I1, x', r, R1, hv.seen Stp.refl R1 ex, e, fun u H' I' S' R' hr hn => p3 H' φ1 I' S' R' u hr (Nw.far S1.there hn)⟩
theorem rd_c2 {σ : L2.St} {H : Hp} {Q : VK} (h : rdR X.K E W (mOp g2 ma mb) σ H Q) : tCB (rdC2 X.K E g2) (tCons (rdR X.K E W ma.bor) (tCons (rdR X.K E W mb.bor) tNil)) σ H Q := by
  obtain ⟨st, φ, I, R, p⟩ := h
  refine ⟨st, φ, I, R, (Po.bind p).imp fun x H1 st1 φ1 I1 S1 R1 p1 v hv _ => ?_⟩
  refine ⟨st1, φ1, I1, R1, (Po.bind p1).imp fun y H2 st2 φ2 I2 S2 R2 p2 w hw _ => ?_⟩
  obtain ⟨x', y', r, ex, ey, e, p3⟩ := Po.at2 p2
  exact ⟨v, w, rfl, σ, st2, φ2, I2, x', y', r, R2, hv.seen S2 R2 ex, hw.seen Stp.refl R2 ey, e, fun u H' I' S' R' hr hn => p3 H' φ2 I' S' R' u hr (Nw.far (S1.trans S2).there hn)⟩
theorem sr_b1 (hc : CallR X (.builtin id) (rdC1 X.K E g)) (hg : Gl X x') (hm : X.mg x' = none) (hv : bootBuiltins x' = some (.builtin id)) (ha : SR X E W a ma) (hn : x' ≠ "__name__" := by decide) (hdb : (x' == ("__debug__" : Str)) = false := by decide)
    (he : starEach [a] X.env = (false, eval a X.env) :: starEach [] X.env := by rfl) : SR X E W (.Call (.Name x' p) [a] [] pos) (mUn g ma) := PEi (pe_callB hc hg hm hv (pa_cons (sr_bor ha) pa_nil he) hn hdb he) fun _ _ _ h => rd_c1 h
theorem sr_t1 (hc : CallR X (.type T) (rdC1 X.K E g)) (hg : Gl X x') (hm : X.mg x' = none) (hv : bootBuiltins x' = some (.type T)) (ha : SR X E W a ma) (hn : x' ≠ "__name__" := by decide) (hdb : (x' == ("__debug__" : Str)) = false := by decide)
    (he : starEach [a] X.env = (false, eval a X.env) :: starEach [] X.env := by rfl) : SR X E W (.Call (.Name x' p) [a] [] pos) (mUn g ma) := PEi (pe_callTy hc hg hm hv (pa_cons (sr_bor ha) pa_nil he) hn hdb he) fun _ _ _ h => rd_c1 h
theorem sr_b2 (hc : CallR X (.builtin id) (rdC2 X.K E g2)) (hg : Gl X x') (hm : X.mg x' = none) (hv : bootBuiltins x' = some (.builtin id)) (ha : SR X E W a ma) (hb : SR X E W b mb) (hn : x' ≠ "__name__" := by decide) (hdb : (x' == ("__debug__" : Str)) = false := by decide)
    (he : starEach [a, b] X.env = (false, eval a X.env) :: starEach [b] X.env := by rfl) (he2 : starEach [b] X.env = (false, eval b X.env) :: starEach [] X.env := by rfl) (hpl : (backTo pos (starEach [b] X.env)).any (·.1) = false := by rfl) :
    SR X E W (.Call (.Name x' p) [a, b] [] pos) (mOp g2 ma mb) := PEi (pe_callB hc hg hm hv (pa_cons (sr_bor ha) (pa_cons (sr_bor hb) pa_nil he2) he) hn hdb he hpl) fun _ _ _ h => rd_c2 h
theorem call_cases {f : Value} {r : List V → Hp → VK → Prop} (h : ∀ vs H Q, r vs H Q → ∃ r', CallR X f r' ∧ r' vs H Q) : CallR X f r := fun pins s σ H xs us Q I rv q => by
  obtain ⟨r', h1, h2⟩ := h _ _ _ q
  exact h1 pins s σ H xs us Q I rv h2
/-- len -/
def opLen : D → Option RV
  | .lst ds => some (.sh (.int ds.length))
  | .lsF ds => some (.sh (.int ds.length))
  | .tup ds => some (.sh (.int ds.length))
  | .tpF ds => some (.sh (.int ds.length))
  | .str z => if z.length ≤ lim then some (.sh (.int z.length)) else none
  | .dct kvs => some (.sh (.int kvs.length))
  | _ => none
theorem call_lenS : CallR X (.builtin "len") (fun xs H Q => ∃ z, xs = [.str z] ∧ z.length ≤ sizeLine ∧ Q (.int z.length) H) := fun pins s σ H xs us Q I rv ⟨z, e, h, q⟩ => call_len pins s σ H xs us Q I rv ⟨.str z, z.length, e, ⟨h, rfl⟩, q⟩
theorem call_lenDR : CallR X (.builtin "len") (fun xs H Q => ∃ p kvs, xs = [.ref p] ∧ Rd H p (.dK kvs) ∧ Q (.int (kvs.length : Nat)) H) := fun pins s σ H xs us Q I rv ⟨p, kvs, e, h, q⟩ => by
  subst e
  obtain ⟨u, rfl, ru⟩ := vals1 rv
  cases ru
  exact d_len I h fun t s' I' => ⟨.int kvs.length, H, I', ⟨t, rfl⟩, q⟩
theorem cl_len : CallR X (.builtin "len") (rdC1 X.K E opLen) := call_cases fun vs H Q ⟨v, e0, σ, st, φ, I, x, r, R, hx, e, q⟩ => by
  subst e0
  have seqL : ∀ {ds : List D}, asL x = some ds → r = .sh (.int ds.length) → ∃ r', CallR X (.builtin "len") r' ∧ r' [v] H Q := fun h1 h2 => by
    subst h2
    obtain ⟨p, vs, rfl, g1, g2⟩ := hx.asL R.ext h1
    refine ⟨_, call_len_seq, p, vs, rfl, .inl g1, ?_⟩
    rw [← g2.len]
    exact q.sh R (.int _)
  have seqT : ∀ {ds : List D}, asT x = some ds → r = .sh (.int ds.length) → ∃ r', CallR X (.builtin "len") r' ∧ r' [v] H Q := fun h1 h2 => by
    subst h2
    obtain ⟨p, vs, rfl, g1, g2⟩ := hx.asT R.ext h1
    refine ⟨_, call_len_seq, p, vs, rfl, .inr g1, ?_⟩
    rw [← g2.len]
    exact q.sh R (.int _)
  cases x <;> try (simp [opLen] at e; done)
  · rename_i z
    simp only [opLen] at e
    by_cases h : z.length ≤ lim
    · rw [if_pos h] at e
      cases e
      exact ⟨_, call_lenS, z, by rw [hx.str], Nat.le_trans h lim_le, q.sh R (.int _)⟩
    · rw [if_neg h] at e
      cases e
  · simp only [opLen, Option.some.injEq] at e; exact seqT rfl e.symm
  · simp only [opLen, Option.some.injEq] at e; exact seqL rfl e.symm
  · simp only [opLen, Option.some.injEq] at e; exact seqL rfl e.symm
  · simp only [opLen, Option.some.injEq] at e; exact seqT rfl e.symm
  · simp only [opLen, Option.some.injEq] at e
    subst e
    obtain ⟨p, us, rfl, h1, h2, h3⟩ := hx.dct R.ext
    refine ⟨_, call_lenDR, p, us, rfl, h1, ?_⟩
    have := congrArg List.length h2
    rw [List.length_map, List.length_map] at this
    rw [this]
    exact q.sh R (.int _)
def opAbs : D → Option RV
  | .int i => some (.sh (.int (if i < 0 then -i else i)))
  | _ => none
theorem cl_abs : CallR X (.builtin "abs") (rdC1 X.K E opAbs) := call_cases fun vs H Q ⟨v, e0, σ, st, φ, I, x, r, R, hx, e, q⟩ => by
  subst e0
  cases x <;> try (simp [opAbs] at e; done)
  simp only [opAbs, Option.some.injEq] at e
  subst e
  exact ⟨_, call_abs, _, by rw [hx.int], q.sh R (.int _)⟩
def opStr : D → Option RV
  | .int i => if i.natAbs.log2 < 1920 then some (.sh (.str (toString i))) else none
  | _ => none
theorem cl_str : CallR X (.type "str") (rdC1 X.K E opStr) := call_cases fun vs H Q ⟨v, e0, σ, st, φ, I, x, r, R, hx, e, q⟩ => by
  subst e0
  cases x <;> try (simp [opStr] at e; done)
  rename_i i
  simp only [opStr] at e
  by_cases h : i.natAbs.log2 < 1920
  · rw [if_pos h] at e
    cases e
    exact ⟨_, call_str_int, _, by rw [hx.int], h, q.sh R (.str _)⟩
  · rw [if_neg h] at e
    cases e
def opInt : D → Option RV
  | .int i => some (.sh (.int i))
  | .bl b => some (.sh (.int (if b then 1 else 0)))
  | .str z => if z.length ≤ 640 then (intText? z).map fun n => .sh (.int n) else none
  | _ => none
theorem cl_int : CallR X (.type "int") (rdC1 X.K E opInt) := call_cases fun vs H Q ⟨v, e0, σ, st, φ, I, x, r, R, hx, e, q⟩ => by
  subst e0
  cases x <;> try (simp [opInt] at e; done)
  · simp only [opInt, Option.some.injEq] at e
    subst e
    exact ⟨_, call_int1, .inr ⟨_, by rw [hx.bl], q.sh R (.int _)⟩⟩
  · simp only [opInt, Option.some.injEq] at e
    subst e
    exact ⟨_, call_int1, .inl ⟨_, by rw [hx.int], q.sh R (.int _)⟩⟩
  · rename_i z
    simp only [opInt] at e
    by_cases h : z.length ≤ 640
    · rw [if_pos h] at e
      obtain ⟨n, e1, rfl⟩ := Option.map_eq_some_iff.mp e
      exact ⟨_, call_int_str, z, n, by rw [hx.str], e1, h, q.sh R (.int _)⟩
    · rw [if_neg h] at e
      cases e
def opList (d : D) : Option RV := ((asL d).or (asT d)).map fun ds => .ow (.ls ds)
theorem cl_list : CallR X (.type "list") (rdC1 X.K E opList) := call_cases fun vs H Q ⟨v, e0, σ, st, φ, I, x, r, R, hx, e, q⟩ => by
  subst e0
  obtain ⟨ds, e1, rfl⟩ := Option.map_eq_some_iff.mp e
  cases h : asL x with
  | some es =>
    rw [h] at e1
    cases e1
    obtain ⟨p, us, rfl, g1, g2⟩ := hx.asL R.ext h
    exact ⟨_, call_list_of, p, us, rfl, .inl g1, q.lst R g2⟩
  | none =>
    rw [h] at e1
    obtain ⟨p, us, rfl, g1, g2⟩ := hx.asT R.ext (show asT x = some ds from e1)
    exact ⟨_, call_list_of, p, us, rfl, .inr g1, q.lst R g2⟩
def opTuple (d : D) : Option RV := match d with
  | .tup ds => some (.sh (.tup ds))
  | .tpF ds => some (.sh (.tpF ds))
  | .lst ds => some (.sh (.tup ds))
  | .lsF ds => some (.sh (.tup ds))
  | _ => none
theorem cl_tuple : CallR X (.type "tuple") (rdC1 X.K E opTuple) := call_cases fun vs H Q ⟨v, e0, σ, st, φ, I, x, r, R, hx, e, q⟩ => by
  subst e0
  have lists : ∀ {ds : List D}, asL x = some ds → r = .sh (.tup ds) → ∃ r', CallR X (.type "tuple") r' ∧ r' [v] H Q := fun h1 h2 => by
    subst h2
    obtain ⟨p, us, rfl, g1, g2⟩ := hx.asL R.ext h1
    exact ⟨_, call_tuple_of, p, us, rfl, .inl ⟨g1, q.tup R g2⟩⟩
  have back : ∀ {d : D} {l : List D}, Seen X.K φ I H d v → (d = .tup l ∨ d = .tpF l) → Rv X.K φ I d v := fun hz hl => hz.elim id fun ⟨_, c, _, e, _⟩ => by rcases hl with rfl | rfl <;> cases c <;> cases e
  cases x <;> try (simp [opTuple] at e; done)
  · simp only [opTuple, Option.some.injEq] at e
    subst e
    obtain ⟨p, us, rfl, g1, g2⟩ := hx.tup R.ext
    exact ⟨_, call_tuple_of, p, us, rfl, .inr ⟨.inl (.inl g1), q.sh R (back hx (.inl rfl))⟩⟩
  · simp only [opTuple, Option.some.injEq] at e; exact lists rfl e.symm
  · simp only [opTuple, Option.some.injEq] at e; exact lists rfl e.symm
  · simp only [opTuple, Option.some.injEq] at e
    subst e
    obtain ⟨p, us, rfl, g1, g2⟩ := hx.tpF R.ext
    exact ⟨_, call_tuple_of, p, us, rfl, .inr ⟨g1, q.sh R (back hx (.inr rfl))⟩⟩
end
end PM

set_option Elab.async false
set_option linter.all false
set_option maxRecDepth 100000
set_option maxHeartbeats 1200000
namespace PM
open PySem PySem.Spec L2

/-! ### things that change -/
/-- the thing that r is, changed by f; what f gives besides -/
def upC (f : Cell → Option (D × Cell)) (r : RV) (st : State) : Option (D × State) := match r with
  | .lo i => match st.env[i]? with
    | some (.ow c) => (f c).map fun p => (p.1, { st with env := st.env.set i (.ow p.2) })
    | _ => none
  | .sh (.obj n) => match st.store[n]? with
    | some c => (f c).map fun p => (p.1, { st with store := st.store.set n p.2 })
    | none => none
  | _ => none
section
variable {K : PySem.W.Frag} {E : Ent} {σ : L2.St} {H : Hp} {st st' : State} {φ : List Addr} {I : Hp}
theorem Rp.up (R : Rp K E σ H st φ I) {f : Cell → Option (D × Cell)} (hf : f .dead = none) {r : RV} {v : V} {d : D} (hr : Rr K E σ H st φ I r v) (e : upC f r st = some (d, st')) :
    ∃ a c c' o, v = .ref a ∧ H a = some o ∧ Ho K φ I c o ∧ f c = some (d, c') ∧ ∀ o', Ho K φ I c' o' → Rp K E σ (upd H a o') st' φ I ∧ Stp σ H st φ I (upd H a o') st' φ I := by
  cases r with
  | ow c => cases e
  | lo i =>
    simp only [upC] at e
    cases h : st.env[i]? with
    | none => rw [h] at e; cases e
    | some s =>
      rw [h] at e
      cases s with
      | un => cases e
      | sh d => cases e
      | ow c =>
        obtain ⟨⟨d', c'⟩, e1, e2⟩ := Option.map_eq_some_iff.mp e
        cases e2
        obtain ⟨a, h1, ⟨o, g1, g2, g3⟩, h3, h4⟩ := R.ow i c h
        have hv : σ[i]? = some (some v) := hr
        rw [h1] at hv
        cases hv
        have hi : i < st.env.length := (List.getElem?_eq_some_iff.mp h).1
        have oth : ∀ {j : Nat}, j ≠ i → (st.env.set i (Slot.ow c'))[j]? = st.env[j]? := fun hj => List.getElem?_set_ne (Ne.symm hj)
        have self : (st.env.set i (Slot.ow c'))[i]? = some (Slot.ow c') := List.getElem?_set_self hi
        have own : ∀ j b, Owns (st.env.set i (Slot.ow c')) σ j b → Owns st.env σ j b := by
          rintro j b ⟨c2, q1, q2⟩
          by_cases hj : j = i
          · subst hj; exact ⟨c, h, q2⟩
          · rw [oth hj] at q1; exact ⟨c2, q1, q2⟩
        refine ⟨a, c, c', o, rfl, g1, g3, e1, fun o' ho' => ?_⟩
        have nI : ∀ b u, I b = some u → b ≠ a := fun b u q z => by rw [z, g2] at q; cases q
        refine ⟨⟨fun b u q => ?_, fun b u q n => ?_, fun b q => ?_, R.inew, R.iold, R.pre, R.pnew, R.nd, R.len, fun j c2 b q1 q2 => ?_, fun b q => ?_, ?_, fun j d2 q => ?_, fun j c2 q => ?_, fun j k b q1 q2 => R.one j k b (own j b q1) (own k b q2)⟩,
          ⟨List.prefix_rfl, fun _ q n => absurd q n, Ex.refl _, fun b u q _ no => ?_, fun b q => ?_, fun b q n => absurd n q, own⟩⟩
        · rw [upd_ne (nI b u q)]; exact R.ext b u q
        · rw [upd_ne (show b ≠ a from fun z => by rw [z, h4] at q; cases q)]; exact R.keep b u q n
        · by_cases hb : b = a
          · rw [hb, upd_same]; simp
          · rw [upd_ne hb]; exact R.there b q
        · rcases R.cells j c2 b q1 q2 with z | ⟨u, z1, z2, z3⟩
          · exact .inl z
          · exact .inr ⟨u, by rw [upd_ne (show b ≠ a from fun z => h3 (z ▸ List.mem_of_getElem? q2))]; exact z1, z2, z3⟩
        · rw [upd_ne (show b ≠ a from fun z => h3 (z ▸ q))]; exact R.pin b q
        · show (st.env.set i _).length = _
          rw [List.length_set]; exact R.elen
        · by_cases hj : j = i
          · subst hj
            rw [show (st.env.set j (Slot.ow c'))[j]? = some (Slot.ow c') from self] at q
            cases q
          · exact R.sh j d2 (by rw [← oth hj]; exact q)
        · by_cases hj : j = i
          · subst hj
            rw [show (st.env.set j (Slot.ow c'))[j]? = some (Slot.ow c') from self] at q
            cases q
            exact ⟨a, h1, ⟨o', upd_same, g2, ho'⟩, h3, h4⟩
          · obtain ⟨b, z1, ⟨u, z2, z3, z4⟩, z5, z6⟩ := R.ow j c2 (by rw [← oth hj]; exact q)
            have hb : b ≠ a := fun z => hj (R.one j i a ⟨c2, by rw [← oth hj]; exact q, z ▸ z1⟩ ⟨c, h, h1⟩)
            exact ⟨b, z1, ⟨u, by rw [upd_ne hb]; exact z2, z3, z4⟩, z5, z6⟩
        · rw [upd_ne (show b ≠ a from fun z => no i ⟨c, h, z ▸ h1⟩)]; exact q
        · by_cases hb : b = a
          · rw [hb, upd_same]; simp
          · rw [upd_ne hb]; exact q
  | sh d0 =>
    cases d0 <;> try (cases e; done)
    rename_i n
    simp only [upC] at e
    cases h : st.store[n]? with
    | none => rw [h] at e; cases e
    | some c =>
      rw [h] at e
      obtain ⟨⟨d', c'⟩, e1, e2⟩ := Option.map_eq_some_iff.mp e
      cases e2
      have hv : Rv K φ I (.obj n) v := hr
      cases hv with
      | obj hn =>
        rename_i a
        have hc := R.cells n c a h hn
        rcases hc with rfl | ⟨o, g1, g2, g3⟩
        · rw [hf] at e1; cases e1
        · have hi : n < st.store.length := (List.getElem?_eq_some_iff.mp h).1
          have ha : a ∈ φ := List.mem_of_getElem? hn
          have nI : ∀ b u, I b = some u → b ≠ a := fun b u q z => by rw [z, g2] at q; cases q
          have no : ∀ j c2, st.env[j]? = some (Slot.ow c2) → ∀ b, σ[j]? = some (some (V.ref b)) → b ≠ a := fun j c2 q b q2 z => by
            obtain ⟨b', z1, _, z3, _⟩ := R.ow j c2 q
            rw [q2] at z1
            cases z1
            exact z3 (z ▸ ha)
          refine ⟨a, c, c', o, rfl, g1, g3, e1, fun o' ho' => ?_⟩
          refine ⟨⟨fun b u q => ?_, fun b u q nn => ?_, fun b q => ?_, R.inew, R.iold, R.pre, R.pnew, R.nd, ?_, fun j c2 b q1 q2 => ?_, fun b q => ?_, R.elen, R.sh, fun j c2 q => ?_, R.one⟩,
            ⟨List.prefix_rfl, fun _ q n => absurd q n, Ex.refl _, fun b u q nb _ => ?_, fun b q => ?_, fun b q n => absurd n q, fun _ _ h => h⟩⟩
          · rw [upd_ne (nI b u q)]; exact R.ext b u q
          · have hb : b ≠ a := fun z => by
              subst z
              rcases R.pnew b ha with z | z
              · exact nn z
              · rw [z] at q; cases q
            rw [upd_ne hb]; exact R.keep b u q nn
          · by_cases hb : b = a
            · rw [hb, upd_same]; simp
            · rw [upd_ne hb]; exact R.there b q
          · show φ.length = (st.store.set n c').length
            rw [List.length_set]; exact R.len
          · replace q1 : (st.store.set n c')[j]? = some c2 := q1
            by_cases hj : j = n
            · subst hj
              rw [List.getElem?_set_self hi] at q1
              cases q1
              rw [hn] at q2
              cases q2
              exact .inr ⟨o', upd_same, g2, ho'⟩
            · rw [List.getElem?_set_ne (Ne.symm hj)] at q1
              rcases R.cells j c2 b q1 q2 with z | ⟨u, z1, z2, z3⟩
              · exact .inl z
              · have hb : b ≠ a := fun z => by
                  subst z
                  have e1 := (List.getElem?_eq_some_iff.mp q2)
                  have e2 := (List.getElem?_eq_some_iff.mp hn)
                  obtain ⟨l1, e1⟩ := e1
                  obtain ⟨l2, e2⟩ := e2
                  exact hj ((List.getElem_inj R.nd).mp (e1.trans e2.symm))
                exact .inr ⟨u, by rw [upd_ne hb]; exact z1, z2, z3⟩
          · by_cases hb : b = a
            · rw [hb, upd_same]; simp
            · rw [upd_ne hb]; exact R.pin b q
          · obtain ⟨b, z1, ⟨u, z2, z3, z4⟩, z5, z6⟩ := R.ow j c2 q
            exact ⟨b, z1, ⟨u, by rw [upd_ne (no j c2 q b z1)]; exact z2, z3, z4⟩, z5, z6⟩
          · rw [upd_ne (show b ≠ a from fun z => nb (z ▸ ha))]; exact q
          · by_cases hb : b = a
            · rw [hb, upd_same]; simp
            · rw [upd_ne hb]; exact q
theorem Rr.step {H' : Hp} {φ' : List Addr} {I' : Hp} {r : RV} {v : V} (h : Rr K E σ H st φ I r v) (S : Stp σ H st φ I H' st' φ' I') (hr : ∀ c, r ≠ .ow c) : Rr K E σ H' st' φ' I' r v := by
  cases r with
  | ow c => exact absurd rfl (hr c)
  | lo i => exact h
  | sh d => exact Rv.mono S.pf S.ii h
theorem bor_no {r : RV} : ∀ c, r.bor ≠ .ow c := fun c h => by cases r <;> cases h
end

/-! ### d[k] = v -/
def putC (k d : D) : Cell → Option (D × Cell)
  | .dc kvs => if kvs.length < lim then (asKey k).map fun k => (.non, .dc (dput kvs k d)) else none
  | .dt kvs => if kvs.length < lim then (match k with
    | .tup ks => (asKeys ks).map fun k => (.non, .dt (dput kvs k d))
    | _ => none) else none
  | _ => none
def mPut (a k v : M RV) : MS := v.frz.then fun d => (a.bind fun r => M.pure r.bor).then fun r => k.frz.then fun kd st => match upC (putC kd d) r.bor st with
  | some (_, st') => .nx st'
  | none => .stuck
section
variable {X : Cx} {E : Ent} {W : WX} {pos pos' : Pos} {a b c e : Expr} {ma mb mc : M RV}
theorem ss_put (hu : X.A.units + 1 < cLine) (ho : SR X E W a ma) (hi : SR X E W b mb) (hv : SR X E W c mc) (hs : swapsWith c (some (.Subscript a b pos')) pos.line X.env = pure false := by rfl) :
    SS X E W (.Assign [.Subscript a b pos'] c pos) (mPut ma mb mc) := PSi (ps_dput hu (sr_bor ho) (se_frz hi) (se_frz hv) hs) fun D σ H ⟨st, φ, I, R, p⟩ => by
  refine ⟨st, φ, I, R, (Ps.then p).imp fun d H1 st1 φ1 I1 S1 R1 p1 v hv => ?_⟩
  refine ⟨st1, φ1, I1, R1, (Ps.then p1).imp fun r H2 st2 φ2 I2 S2 R2 p2 u hu hn => ?_⟩
  refine ⟨st2, φ2, I2, R2, (Ps.then p2).imp fun k H3 st3 φ3 I3 S3 R3 p3 w hw => ?_⟩
  cases e : upC (putC k d) r.bor st3 with
  | none => rw [e] at p3; exact p3.elim
  | some q =>
    obtain ⟨d', st4⟩ := q
    rw [e] at p3
    have hu2 : Rr X.K E σ H2 st2 φ2 I2 r.bor u := by
      cases r with
      | ow c =>
        -- a new thing is not stored into
        exact absurd e (by simp [upC, RV.bor]; cases c <;> simp [Cell.frz])
      | sh d => exact hu
      | lo i => exact hu
    have hr3 : Rr X.K E σ H3 st3 φ3 I3 r.bor u := hu2.step S3 bor_no
    have hd3 := hv.mono (S2.trans S3).pf (S2.trans S3).ii
    obtain ⟨x, cc, c', o, rfl, g1, g2, g3, g4⟩ := R3.up (f := putC k d) rfl hr3 e
    cases g2 with
    | ls _ => cases g3
    | ins _ _ => cases g3
    | dc z1 z2 =>
      rename_i kvs us
      simp only [putC] at g3
      by_cases hz : kvs.length < lim
      · rw [if_pos hz] at g3
        obtain ⟨k', e1, e2⟩ := Option.map_eq_some_iff.mp g3
        cases e2
        obtain ⟨y1, y2⟩ := dput_rel (k := k') z1 z2 hd3
        obtain ⟨R4, S4⟩ := g4 _ (.dc y1 y2)
        have hl : us.length = kvs.length := by have := congrArg List.length z1; rwa [List.length_map, List.length_map] at this
        refine ⟨x, _, rfl, .inl ⟨us, k', g1, asKey_rv hw e1, by rw [hl]; exact Nat.lt_trans hz lim_lt, rfl⟩, p3 _ _ _ _ Grow.refl R4⟩
      · rw [if_neg hz] at g3
        cases g3
    | dt z1 z2 =>
      rename_i kvs us
      simp only [putC] at g3
      by_cases hz : kvs.length < lim
      · rw [if_pos hz] at g3
        cases k <;> try (cases g3; done)
        rename_i ks
        obtain ⟨k', e1, e2⟩ := Option.map_eq_some_iff.mp g3
        cases e2
        obtain ⟨y1, y2⟩ := dput_rel (k := k') z1 z2 hd3
        obtain ⟨R4, S4⟩ := g4 _ (.dt y1 y2)
        have hl : us.length = kvs.length := by have := congrArg List.length z1; rwa [List.length_map, List.length_map] at this
        cases hw with
        | tup q1 q2 =>
          have ek := asKeys_rv q2 e1
          subst ek
          exact ⟨x, _, rfl, .inr ⟨us, k', _, g1, rfl, R3.ext _ _ q1, by rw [hl]; exact Nat.lt_trans hz lim_lt, rfl⟩, p3 _ _ _ _ Grow.refl R4⟩
      · rw [if_neg hz] at g3
        cases g3
end
end PM

set_option Elab.async false
set_option linter.all false
set_option maxRecDepth 100000
set_option maxHeartbeats 1200000
namespace PM
open PySem PySem.Spec L2

/-! ### what a loop walks -/
def asSeq (d : D) : Option (List D) := (asL d).or (asT d)
def mIt (a : M RV) : M (List D) := a.frz.bind fun d => M.ofO (asSeq d)
def asI : RV → Option Int
  | .sh (.int i) => some i
  | _ => none
def rng (lo : Int) (n : Nat) : List D := (List.range n).map fun (k : Nat) => D.int (lo + (k : Int))
def small (i : Int) : Bool := decide (-(2 ^ 62) ≤ i) && decide (i < 2 ^ 62)
def mRg1 (a : M RV) : M (List D) := a.bind fun r => match asI r with
  | some i => if small i then M.pure (rng 0 i.toNat) else M.stuck
  | none => M.stuck
def mRg2 (a b : M RV) : M (List D) := a.bind fun r => b.bind fun s => match asI r, asI s with
  | some i, some j => if small i && small j then M.pure (rng i (j - i).toNat) else M.stuck
  | _, _ => M.stuck
def signs (z : Str) : List D := z.cps.toList.map fun c => .str ⟨#[c]⟩
def mItS (a : M RV) : M (List D) := a.bind fun r => match r with
  | .sh (.str z) => M.pure (signs z)
  | _ => M.stuck
section
variable {K : PySem.W.Frag} {E : Ent} {φ : List Addr} {I : Hp}
theorem sqL_inj {H : Hp} {a : Addr} {xs : List V} (hx : Ex I H) (h : SqL K I a xs) : SqL K H a xs := sqL_mono hx h
theorem walk_l {a : Addr} {vs : List V} {ds : List D} (h : SqL K I a vs) (r : Rvs K φ I ds vs) : Walk K E (Itl K a) ds φ I := fun σ H st φ' I' R g i => by
  have hs : SqL K H a vs := sqL_mono R.ext (sqL_mono g.ii h)
  refine ⟨fun d e => ?_, fun hi => ⟨vs, hs, by rw [← r.len]; exact hi⟩⟩
  obtain ⟨v, e1, e2⟩ := r.get e
  refine ⟨⟨vs, v, hs, e1⟩, fun x H' ⟨e3, e4⟩ => ?_⟩
  subst e3
  have e5 := e4 vs hs
  rw [e1] at e5
  cases e5
  exact ⟨I', R, Stp.refl, e2.mono g.pf g.ii⟩
theorem walk_t {a : Addr} {vs : List V} {ds : List D} (h : SqT K I a vs) (r : Rvs K φ I ds vs) : Walk K E (Itt K a) ds φ I := fun σ H st φ' I' R g i => by
  have hs : SqT K H a vs := sqT_mono R.ext (sqT_mono g.ii h)
  refine ⟨fun d e => ?_, fun hi => ⟨vs, hs, by rw [← r.len]; exact hi⟩⟩
  obtain ⟨v, e1, e2⟩ := r.get e
  refine ⟨⟨vs, v, hs, e1⟩, fun x H' ⟨e3, e4⟩ => ?_⟩
  subst e3
  have e5 := e4 vs hs
  rw [e1] at e5
  cases e5
  exact ⟨I', R, Stp.refl, e2.mono g.pf g.ii⟩
theorem walk_r (lo : Int) (n : Nat) : Walk K E (Itr lo n) (rng lo n) φ I := fun σ H st φ' I' R g i => by
  have hl : (rng lo n).length = n := by unfold rng; simp
  refine ⟨fun d e => ?_, fun hi => by rw [hl] at hi; exact hi⟩
  have hi : i < n := by rw [← hl]; exact (List.getElem?_eq_some_iff.mp e).1
  have e2 : d = .int (lo + (i : Int)) := by
    unfold rng at e
    rw [List.getElem?_map, List.getElem?_range hi] at e
    exact (Option.some.inj e).symm
  subst e2
  refine ⟨hi, fun x H' ⟨e3, e4⟩ => ?_⟩
  subst e3
  subst e4
  exact ⟨I', R, Stp.refl, .int _⟩
theorem walk_s (z : Str) : Walk K E (Its z) (signs z) φ I := fun σ H st φ' I' R g i => by
  have hl : (signs z).length = z.cps.size := by unfold signs; simp
  refine ⟨fun d e => ?_, fun hi => by rw [hl] at hi; exact hi⟩
  have hi : i < z.cps.size := by rw [← hl]; exact (List.getElem?_eq_some_iff.mp e).1
  have e0 : z.cps[i]? = some z.cps[i] := Array.getElem?_eq_getElem hi
  have e2 : d = .str ⟨#[z.cps[i]]⟩ := by
    unfold signs at e
    rw [List.getElem?_map, Array.getElem?_toList, e0] at e
    exact (Option.some.inj e).symm
  subst e2
  refine ⟨hi, fun x H' h => ?_⟩
  obtain ⟨e3, c, e4, e5⟩ := h
  subst e3
  rw [e0] at e4
  cases e4
  subst e5
  exact ⟨I', R, Stp.refl, .str _⟩
end
section
variable {X : Cx} {E : Ent} {W : WX} {pos p : Pos} {tg a b c e : Expr} {ma mb mc : M RV}
theorem si_seq (h : SR X E W a ma) : SI X E W tg a (mIt ma) := ⟨fun pins s σ H R I0 h0 => by
  obtain ⟨st, φ, I, Rr, p⟩ := h0
  unfold mIt at p
  have p1 := Po.bind p
  cases e0 : ma.frz st with
  | stuck => rw [e0] at p1; exact p1.elim
  | exc c st1 =>
    rw [e0] at p1
    refine (pi_list (se_frz h)).run pins s σ H R I0 ⟨st, φ, I, Rr, ?_⟩
    rw [e0]
    exact p1
  | ok d st1 =>
    rw [e0] at p1
    cases e1 : asL d with
    | some ds =>
      refine (pi_list (se_frz h)).run pins s σ H R I0 ⟨st, φ, I, Rr, ?_⟩
      rw [e0]
      intro H1 φ1 I1 S1 R1 v hv
      obtain ⟨es, e2, q2⟩ := Po.ofO (p1 H1 φ1 I1 S1 R1)
      unfold asSeq at e2
      rw [e1] at e2
      cases e2
      obtain ⟨x, vs, rfl, g1, g2⟩ := Seen.asL (Ex.refl I1) (Seen.rv hv) e1
      exact ⟨x, rfl, ⟨vs, sqL_mono R1.ext g1⟩, q2 H1 φ1 I1 Stp.refl R1 _ (walk_l g1 g2)⟩
    | none =>
      refine (pi_tup (se_frz h)).run pins s σ H R I0 ⟨st, φ, I, Rr, ?_⟩
      rw [e0]
      intro H1 φ1 I1 S1 R1 v hv
      obtain ⟨es, e2, q2⟩ := Po.ofO (p1 H1 φ1 I1 S1 R1)
      unfold asSeq at e2
      rw [e1] at e2
      obtain ⟨x, vs, rfl, g1, g2⟩ := Seen.asT (Ex.refl I1) (Seen.rv hv) (show asT d = some es from e2)
      exact ⟨x, rfl, ⟨vs, sqT_mono R1.ext g1⟩, q2 H1 φ1 I1 Stp.refl R1 _ (walk_t g1 g2)⟩⟩
theorem asI_r {K : PySem.W.Frag} {σ : L2.St} {H : Hp} {st : State} {φ : List Addr} {I : Hp} {r : RV} {v : V} {i : Int} (h : Rr K E σ H st φ I r v) (e : asI r = some i) : v = .int i := by
  cases r with
  | ow c => cases e
  | lo i => cases e
  | sh d =>
    cases d <;> try (cases e; done)
    cases e
    cases h
    rfl
theorem small_of {i : Int} (h : small i = true) : -(2 ^ 62) ≤ i ∧ i < 2 ^ 62 := ⟨of_decide_eq_true (Bool.and_eq_true_iff.mp h).1, of_decide_eq_true (Bool.and_eq_true_iff.mp h).2⟩
theorem si_rg1 (hg : Gl X "range") (hm : X.mg "range" = none) (ha : SR X E W a ma) (hs : starEach [a] X.env = [(false, eval a X.env)] := by rfl) : SI X E W tg (.Call (.Name "range" p) [a] [] pos) (mRg1 ma) := PIi (pi_range1 hg hm (pa_cons ha pa_nil hs) hs) fun σ H R ⟨st, φ, I, Rr, p⟩ => by
  refine ⟨st, φ, I, Rr, (Po.bind p).imp fun r H1 st1 φ1 I1 S1 R1 p1 v hv _ => ?_⟩
  cases e : asI r with
  | none => rw [e] at p1; exact p1.elim
  | some i =>
    rw [e] at p1
    simp only at p1
    by_cases h : small i = true
    · rw [if_pos h] at p1
      obtain ⟨h1, h2⟩ := small_of h
      refine ⟨i, by rw [asI_r hv e], h1, h2, p1.pure R1 _ (walk_r 0 _)⟩
    · rw [if_neg h] at p1
      exact p1.elim
theorem si_rg2 (hg : Gl X "range") (hm : X.mg "range" = none) (ha : SR X E W a ma) (hb : SR X E W b mb) (hs : starEach [a, b] X.env = [(false, eval a X.env), (false, eval b X.env)] := by rfl) (hs2 : starEach [b] X.env = [(false, eval b X.env)] := by rfl) :
    SI X E W tg (.Call (.Name "range" p) [a, b] [] pos) (mRg2 ma mb) := PIi (pi_range2 hg hm (pa_cons ha (pa_cons hb pa_nil hs2) (by rw [hs, hs2])) hs hs2) fun σ H R ⟨st, φ, I, Rr, p⟩ => by
  refine ⟨st, φ, I, Rr, (Po.bind p).imp fun r H1 st1 φ1 I1 S1 R1 p1 v hv _ => ?_⟩
  refine ⟨st1, φ1, I1, R1, (Po.bind p1).imp fun r2 H2 st2 φ2 I2 S2 R2 p2 w hw _ => ?_⟩
  cases e : asI r with
  | none => rw [e] at p2; exact p2.elim
  | some i =>
    cases e2 : asI r2 with
    | none => rw [e, e2] at p2; exact p2.elim
    | some j =>
      rw [e, e2] at p2
      simp only at p2
      by_cases h : (small i && small j) = true
      · rw [if_pos h] at p2
        obtain ⟨h1, h2⟩ := small_of (Bool.and_eq_true_iff.mp h).1
        obtain ⟨h3, h4⟩ := small_of (Bool.and_eq_true_iff.mp h).2
        exact ⟨i, j, by rw [asI_r hv e, asI_r hw e2], ⟨h1, h2, h3, h4⟩, p2.pure R2 _ (walk_r i _)⟩
      · rw [if_neg h] at p2
        exact p2.elim
theorem si_str (ha : SR X E W a ma) : SI X E W tg a (mItS ma) := PIi (pi_str ha) fun σ H R ⟨st, φ, I, Rr, p⟩ => by
  refine ⟨st, φ, I, Rr, (Po.bind p).imp fun r H1 st1 φ1 I1 S1 R1 p1 v hv _ => ?_⟩
  cases r with
  | ow c => exact p1.elim
  | lo i => exact p1.elim
  | sh d =>
    cases d <;> try (exact p1.elim)
    cases hv
    exact ⟨_, rfl, p1.pure R1 _ (walk_s _)⟩

/-! ### a, b = x, y -/
def isLo : RV → Bool
  | .lo _ => true
  | _ => false
def mPar (i j : Nat) (a b : M RV) : MS := a.fix.then fun r => b.fix.then fun s st => if isLo s then .stuck else .nx { st with env := (st.env.set i r.slot).set j s.slot }
theorem Rr.keep {K : PySem.W.Frag} {σ : L2.St} {H H' : Hp} {st st' : State} {φ φ' : List Addr} {I I' : Hp} {r : RV} {v : V} (h : Rr K E σ H st φ I r v) (S : Stp σ H st φ I H' st' φ' I') : Rr K E σ H' st' φ' I' r v := by
  cases r with
  | sh d => exact Rv.mono S.pf S.ii h
  | lo i => exact h
  | ow c =>
    obtain ⟨a, rfl, ⟨o, g1, g2, g3⟩, h2, h3, h4⟩ := h
    refine ⟨a, rfl, ⟨o, S.fr a o g1 h2 h4, ?_, g3.mono S.pf S.ii⟩, fun z => ?_, h3, fun i z => h4 i (S.ow i a z)⟩
    · cases q : I' a with
      | none => rfl
      | some u =>
        rcases S.inf a (by rw [q]; simp) g2 with z | z | ⟨i, z⟩
        · rw [g1] at z; cases z
        · exact absurd z h2
        · exact absurd z (h4 i)
    · have := S.nf a z h2
      rw [g1] at this
      cases this
theorem ss_par (i j : Nat) {x y : Str} {px py pt : Pos} {kt k2 pt2} (hc : X.calm = true) (hN : X.N.Nodup) (ha : SR X E W a ma) (hb : SR X E W b mb) (hi : X.N[i]? = some x := by rfl) (hj : X.N[j]? = some y := by rfl) (hij : i ≠ j := by decide)
    (hx : X.env.scope.names.lookup x = some .local := by rfl) (hy : X.env.scope.names.lookup y = some .local := by rfl) (he : starEach [a, b] X.env = (false, eval a X.env) :: starEach [b] X.env := by rfl) (he2 : starEach [b] X.env = (false, eval b X.env) :: starEach [] X.env := by rfl)
    (hw : swappedStores [.Tuple [.Name x px, .Name y py] kt pt] (.Tuple [a, b] k2 pt2) X.env = Pure.pure (some [x, y]) := by rfl)
    (hs : swapsWithSole [.Tuple [.Name x px, .Name y py] kt pt] (.Tuple [a, b] k2 pt2) pos.line X.env = Pure.pure false := by rfl) :
    SS X E W (.Assign [.Tuple [.Name x px, .Name y py] kt pt] (.Tuple [a, b] k2 pt2) pos) (mPar i j ma mb) := PSi (ps_par hc hN hi hj hij hx hy (pa_cons (sr_fix ha) (pa_cons (sr_fix hb) pa_nil he2) he) hw hs) fun D σ H ⟨st, φ, I, R, p⟩ => by
  refine ⟨st, φ, I, R, (Ps.then p).imp fun r H1 st1 φ1 I1 S1 R1 p1 v hv hn1 => ?_⟩
  refine ⟨st1, φ1, I1, R1, (Ps.then p1).imp fun s H2 st2 φ2 I2 S2 R2 p2 w hw hn2 => ?_⟩
  refine ⟨v, w, rfl, ?_⟩
  have hv2 := hv.keep S2
  have R3 := R2.setR (i := i) hv2
  by_cases hlo : isLo s = true
  · rw [if_pos hlo] at p2
    exact p2.elim
  rw [if_neg hlo] at p2
  refine p2 _ H2 φ2 I2 Grow.refl (R3.setR (r := s) (i := j) ?_)
  cases s with
  | sh d => exact hw
  | ow c =>
    obtain ⟨a2, rfl, h1, h2, h3, h4⟩ := hw
    refine ⟨a2, rfl, h1, h2, h3, ?_⟩
    rintro k ⟨c', q1, q2⟩
    by_cases hk : k = i
    · subst hk
      replace q1 : (st2.env.set k r.slot)[k]? = some (Slot.ow c') := q1
      have hl : k < st2.env.length := by
        have := (List.getElem?_eq_some_iff.mp q1).1
        rwa [List.length_set] at this
      rw [List.getElem?_set_self hl] at q1
      rw [List.getElem?_set_self (by rw [← R2.elen]; exact hl)] at q2
      cases r with
      | sh d => cases q1
      | lo i => cases q1
      | ow c0 =>
        simp only [Option.some.injEq] at q2
        subst q2
        obtain ⟨a1, e1, ⟨o, g1, _⟩, _, _, g4⟩ := hv
        cases e1
        have z := hn2 _ _ rfl rfl
        rw [g1] at z
        cases z
    · replace q1 : (st2.env.set i r.slot)[k]? = some (Slot.ow c') := q1
      rw [List.getElem?_set_ne (Ne.symm hk)] at q1 q2
      exact h4 k ⟨c', q1, q2⟩
  | lo k => exact absurd rfl hlo
end
end PM

set_option Elab.async false
set_option linter.all false
set_option maxRecDepth 100000
set_option maxHeartbeats 1200000
namespace PM
open PySem PySem.Spec L2

/-! ### comprehensions -/
def wipeE (env : List Slot) : List Nat → List Slot
  | [] => env
  | v :: vs => (wipeE env vs).set v .un
def State.wipe (st : State) (own : List Nat) : State := { st with env := wipeE st.env own }
def mYes : M Bool := M.pure true
def mCompL (own : List Nat) (g : D → State → Option State) (t : M Bool) (e : M RV) : List D → List D → M (List D)
  | [], acc => M.pure acc
  | d :: ds, acc => fun st => match g d (st.wipe own) with
    | none => .stuck
    | some st1 => match t st1 with
      | .ok true st2 => match e.frz st2 with
        | .ok x st3 => if acc.length < lim then mCompL own g t e ds (acc ++ [x]) (st3.wipe own) else .stuck
        | _ => .stuck
      | .ok false st2 => mCompL own g t e ds acc (st2.wipe own)
      | _ => .stuck
def mComp (own : List Nat) (it : M (List D)) (g : D → State → Option State) (t : M Bool) (e : M RV) : M RV := it.bind fun ds st => match mCompL own g t e ds [] (st.wipe own) with
  | .ok xs st' => .ok (.ow (.ls xs)) st'
  | _ => .stuck
section
theorem wipeE_len (env : List Slot) : ∀ vs, (wipeE env vs).length = env.length
  | [] => rfl
  | v :: vs => by unfold wipeE; rw [List.length_set, wipeE_len env vs]
theorem wipeE_some {env : List Slot} {i : Nat} {s : Slot} : ∀ {vs : List Nat}, (wipeE env vs)[i]? = some s → s = .un ∨ (env[i]? = some s ∧ i ∉ vs)
  | [], h => .inr ⟨h, by simp⟩
  | v :: vs, h => by
    unfold wipeE at h
    by_cases hv : v = i
    · subst hv
      by_cases hl : v < (wipeE env vs).length
      · rw [List.getElem?_set_self hl] at h; cases h; exact .inl rfl
      · rw [List.getElem?_eq_none (by simpa using hl)] at h; cases h
    · rw [List.getElem?_set_ne hv] at h
      rcases wipeE_some h with z | ⟨z1, z2⟩
      · exact .inl z
      · exact .inr ⟨z1, by simp only [List.mem_cons, not_or]; exact ⟨fun e => hv e.symm, z2⟩⟩
theorem wipe_out {σ : L2.St} {i : Nat} : ∀ {vs : List Nat}, i ∉ vs → (L2.wipe σ vs)[i]? = σ[i]?
  | [], _ => rfl
  | v :: vs, h => by
    simp only [List.mem_cons, not_or] at h
    unfold L2.wipe
    rw [List.getElem?_set_ne (fun e => h.1 e.symm)]
    exact wipe_out h.2
theorem wipe_len (σ : L2.St) : ∀ vs, (L2.wipe σ vs).length = σ.length
  | [] => rfl
  | v :: vs => by unfold L2.wipe; rw [List.length_set, wipe_len σ vs]
theorem wipe_ext {σ σ' : L2.St} : ∀ {vs : List Nat}, (∀ i, i ∉ vs → σ'[i]? = σ[i]?) → σ'.length = σ.length → L2.wipe σ' vs = L2.wipe σ vs := by
  intro vs h hl
  apply List.ext_getElem?
  intro i
  by_cases hi : i ∈ vs
  · have aux : ∀ (τ : L2.St) (vs : List Nat), i ∈ vs → (L2.wipe τ vs)[i]? = if i < τ.length then some none else none := by
      intro τ vs
      induction vs with
      | nil => intro h; cases h
      | cons v vs ih =>
        intro h
        unfold L2.wipe
        by_cases hv : v = i
        · subst hv
          by_cases hl : v < τ.length
          · rw [List.getElem?_set_self (by rw [wipe_len]; exact hl), if_pos hl]
          · rw [List.getElem?_eq_none (by rw [List.length_set, wipe_len]; omega), if_neg hl]
        · rw [List.getElem?_set_ne hv]
          exact ih ((List.mem_cons.mp h).resolve_left fun e => hv e.symm)
    rw [aux σ' vs hi, aux σ vs hi, hl]
  · rw [wipe_out hi, wipe_out hi, h i hi]
variable {K : PySem.W.Frag} {E : Ent} {σ : L2.St} {H H' : Hp} {st st' : State} {φ φ' : List Addr} {I I' : Hp} {own : List Nat}
theorem wipe_owns {i : Nat} {a : Addr} (h : Owns (wipeE st.env own) (L2.wipe σ own) i a) : Owns st.env σ i a := by
  obtain ⟨c, h1, h2⟩ := h
  rcases wipeE_some h1 with z | ⟨z1, z2⟩
  · cases z
  · rw [wipe_out z2] at h2
    exact ⟨c, z1, h2⟩
theorem Rp.wipe (R : Rp K E σ H st φ I) : Rp K E (L2.wipe σ own) H (st.wipe own) φ I :=
  ⟨R.ext, R.keep, R.there, R.inew, R.iold, R.pre, R.pnew, R.nd, R.len, R.cells, R.pin, by show (wipeE st.env own).length = _; rw [wipeE_len, wipe_len]; exact R.elen, fun i d h => by
    rcases wipeE_some h with z | ⟨z1, z2⟩
    · cases z
    · rw [wipe_out z2]; exact R.sh i d z1, fun i c h => by
    rcases wipeE_some h with z | ⟨z1, z2⟩
    · cases z
    · rw [wipe_out z2]; exact R.ow i c z1, fun i j a h1 h2 => R.one i j a (wipe_owns h1) (wipe_owns h2)⟩
/-- back from the block's slots -/
theorem Rp.unwipe (R : Rp K E (L2.wipe σ own) H (st.wipe own) φ I) : Rp K E σ H (st.wipe own) φ I := by
  have back : ∀ i a, Owns (st.wipe own).env σ i a → Owns (st.wipe own).env (L2.wipe σ own) i a := fun i a ⟨c, h1, h2⟩ => by
    rcases wipeE_some (show (wipeE st.env own)[i]? = _ from h1) with z | ⟨z1, z2⟩
    · cases z
    · exact ⟨c, h1, by rw [wipe_out z2]; exact h2⟩
  refine ⟨R.ext, R.keep, R.there, R.inew, R.iold, R.pre, R.pnew, R.nd, R.len, R.cells, R.pin, R.elen.trans (wipe_len _ _), fun i d h => ?_, fun i c h => ?_, fun i j a h1 h2 => R.one i j a (back _ _ h1) (back _ _ h2)⟩
  · rcases wipeE_some (show (wipeE st.env own)[i]? = _ from h) with z | ⟨z1, z2⟩
    · cases z
    · obtain ⟨v, h1, h2⟩ := R.sh i d h
      rw [wipe_out z2] at h1
      exact ⟨v, h1, h2⟩
  · rcases wipeE_some (show (wipeE st.env own)[i]? = _ from h) with z | ⟨z1, z2⟩
    · cases z
    · obtain ⟨a, h1, h2⟩ := R.ow i c h
      rw [wipe_out z2] at h1
      exact ⟨a, h1, h2⟩
/-- what a block's turn does, seen from outside: nothing but the things, what is shared and the frame's own may have changed -/
structure Bst (σ : L2.St) (H : Hp) (st : State) (φ : List Addr) (I : Hp) (H' : Hp) (φ' : List Addr) (I' : Hp) : Prop where
  pf : φ <+: φ'
  nf : ∀ a ∈ φ', a ∉ φ → H a = none
  ii : Ex I I'
  fr : ∀ a o, H a = some o → a ∉ φ → (∀ i, ¬ Owns st.env σ i a) → H' a = some o
  there : ∀ a, H a ≠ none → H' a ≠ none
  inf : ∀ a, I' a ≠ none → I a = none → H a = none ∨ a ∈ φ ∨ ∃ i, Owns st.env σ i a
theorem Stp.bst (S : Stp σ H st φ I H' st' φ' I') : Bst σ H st φ I H' φ' I' := ⟨S.pf, S.nf, S.ii, S.fr, S.there, S.inf⟩
theorem Bst.trans {H1 H2 : Hp} {st1 : State} {σ1 : L2.St} {p1 p2 : List Addr} {I1 I2 : Hp} (a : Bst σ H st φ I H1 p1 I1) (ho : ∀ i x, Owns st1.env σ1 i x → ∃ j, Owns st.env σ j x) (b : Bst σ1 H1 st1 p1 I1 H2 p2 I2) : Bst σ H st φ I H2 p2 I2 where
  pf := a.pf.trans b.pf
  nf := fun x hx hn => by
    by_cases h : x ∈ p1
    · exact a.nf x h hn
    · cases q : H x with
      | none => rfl
      | some o => exact absurd (b.nf x hx h) (a.there x (by rw [q]; simp))
  ii := a.ii.trans b.ii
  fr := fun x o e hn hno => by
    refine b.fr x o (a.fr x o e hn hno) (fun h => ?_) fun i h => ?_
    · have := a.nf x h hn
      rw [e] at this
      cases this
    · obtain ⟨j, q⟩ := ho i x h
      exact hno j q
  there := fun x h => b.there x (a.there x h)
  inf := fun x h hn => by
    cases q : I1 x with
    | some o => exact a.inf x (by rw [q]; simp) hn
    | none =>
      rcases b.inf x h q with z | z | ⟨i, z⟩
      · left
        cases q : H x with
        | none => rfl
        | some o => exact absurd z (a.there x (by rw [q]; simp))
      · by_cases hm : x ∈ φ
        · exact .inr (.inl hm)
        · exact .inl (a.nf x z hm)
      · exact .inr (.inr (ho i x z))
/-- nobody's thing stays -/
theorem own_keep {a : Addr} {c : Cell} (h : CellAt K φ I H a c) (h2 : a ∉ φ) (h4 : ∀ i, ¬ Owns st.env σ i a) (S : Bst σ H st φ I H' φ' I') : CellAt K φ' I' H' a c ∧ a ∉ φ' := by
  obtain ⟨o, g1, g2, g3⟩ := h
  refine ⟨⟨o, S.fr a o g1 h2 h4, ?_, g3.mono S.pf S.ii⟩, fun z => ?_⟩
  · cases q : I' a with
    | none => rfl
    | some u =>
      rcases S.inf a (by rw [q]; simp) g2 with z | z | ⟨i, z⟩
      · rw [g1] at z; cases z
      · exact absurd z h2
      · exact absurd z (h4 i)
  · have := S.nf a z h2
    rw [g1] at this
    cases this
end
/-- no exception is let out -/
def WF : WX := fun _ _ _ _ => False
theorem takesF {X : Cx} : Takes X WF := fun u s' h => by
  obtain ⟨a, B, sI, pins, σ, H, cls, d, e, I, nb, up, sky, na, os, ag, w⟩ := h
  exact w.elim
def rdTs (K : PySem.W.Frag) (E : Ent) (m : M Bool) : TT := rdT K E WF m
section
variable {X : Cx} {E : Ent} {W : WX} {pos : Pos}
theorem PTsi {e : List Expr} {t t' : TT} (h : PTs X e t) (k : ∀ σ H Q, t' σ H Q → t σ H Q) : PTs X e t' := ⟨fun p s σ H Q I q => h.run p s σ H Q I (k _ _ _ q)⟩
theorem sts_nil : PTs X [] (rdT X.K E W mYes) := PTsi pts_nil fun σ H Q ⟨st, φ, I, R, p⟩ => p.pure R
theorem sts_one {c : Expr} {m : M Bool} (h : ST X E W c m) : PTs X [c] (rdT X.K E W m) := pts_one h
/-- the run of a comprehension, where its items are at hand -/
theorem rd_comp {J : It} {g : D → State → Option State} {t : M Bool} {e : M RV} {own ts : List Nat} {σ : L2.St} {H1 : Hp} {st1 : State} {φ1 : List Addr} {I1 : Hp} {ds : List D} {Q : VK} (hts : ∀ i ∈ ts, i ∈ own) (R1 : Rp X.K E σ H1 st1 φ1 I1) (hJ : Walk X.K E J ds φ1 I1)
    (p : ∃ xs st', mCompL own g t e ds [] (st1.wipe own) = .ok xs st' ∧ ∀ v H' φ' I', Stp σ H1 st1 φ1 I1 H' st' φ' I' → Rp X.K E σ H' st' φ' I' → Rr X.K E σ H' st' φ' I' (.ow (.ls xs)) v → (∀ a, v = .ref a → H1 a = none) → Q v H') :
    ∀ D, H1 D = none → ∃ Wv : Nat → Nat → Hp → Prop, (∃ m, Wv 0 m (upd H1 D (.lst []))) ∧ ∀ i m H, Wv i m H →
      (J.stop i H ∧ Q (.ref D) H) ∨ (J.go i H ∧ ∃ Nx : Hp → Prop, (∀ H', Nx H' → ∃ m', m' < m ∧ Wv (i + 1) m' H') ∧ ∀ x H', J.yld i H x H' → rdG X.K E ts g x (L2.wipe σ own) H' fun σ2 H2 => L2.wipe σ2 own = L2.wipe σ own ∧ rdT X.K E WF t σ2 H2 fun b H3 =>
        if b = true then rdE X.K E WF e.frz σ2 H3 fun y H4 => ∃ acc, H4 D = some (.lst acc) ∧ acc.length < sizeLine ∧ Nx (upd H4 D (.lst (acc ++ [y]))) else Nx H3) := by
  intro Da hDa
  obtain ⟨xs, st', e0, fin⟩ := p
  -- the word: what is left to be done gives the same end
  let Wd : Nat → Hp → Prop := fun i H => ∃ (st : State) (φ : List Addr) (I : Hp) (acc : List PM.D), Rp X.K E (L2.wipe σ own) H (st.wipe own) φ I ∧ Bst σ H1 st1 φ1 I1 H φ I ∧ (∀ j a, Owns (st.wipe own).env (L2.wipe σ own) j a → Owns st1.env σ j a) ∧ CellAt X.K φ I H Da (.ls acc) ∧ Da ∉ φ ∧ (∀ j, ¬ Owns (st.wipe own).env (L2.wipe σ own) j Da) ∧
    mCompL own g t e (ds.drop i) acc (st.wipe own) = .ok xs st'
  refine ⟨fun i m H => m + i = ds.length ∧ Wd i H, ⟨ds.length, rfl, ?_⟩, ?_⟩
  · obtain ⟨R2, S2⟩ := R1.laidO hDa (.lst [])
    obtain ⟨f1, f2, f3, f4⟩ := R1.fresh hDa
    exact ⟨st1, φ1, I1, [], R2.wipe, S2.bst, fun j a h => wipe_owns h, ⟨_, upd_same, f3, .ls .nil⟩, f2, fun j h => f4 j (wipe_owns h), e0⟩
  · rintro i m H ⟨hm, st, φ, I, acc, R, B, ho, cD, nD, oD, e1⟩
    obtain ⟨w1, w2⟩ := hJ _ H _ φ I R ⟨B.pf, B.ii⟩ i
    by_cases hi : i < ds.length
    · refine .inr ?_
      have hd : ds.drop i = ds[i] :: ds.drop (i + 1) := List.drop_eq_getElem_cons hi
      rw [hd] at e1
      obtain ⟨go, yld⟩ := w1 ds[i] (List.getElem?_eq_getElem hi)
      refine ⟨go, Wd (i + 1), fun H' h => ⟨m - 1, by omega, by omega, h⟩, fun v H' hy => ?_⟩
      obtain ⟨I3, R3, S3, hv⟩ := yld v H' hy
      unfold mCompL at e1
      have ww : (st.wipe own).wipe own = st.wipe own := by
        unfold State.wipe
        congr 1
        apply List.ext_getElem?
        intro k
        cases q : (wipeE (wipeE st.env own) own)[k]? with
        | none =>
          have := List.getElem?_eq_none_iff.mp q
          rw [wipeE_len] at this
          exact (List.getElem?_eq_none this).symm
        | some s =>
          by_cases hk : k ∈ own
          · have aux : ∀ (τ : List Slot) (vs : List Nat) (s : Slot), k ∈ vs → (wipeE τ vs)[k]? = some s → s = .un := fun τ vs s hv hq => (wipeE_some hq).elim id fun z => absurd hv z.2
            have hk2 : k < (wipeE st.env own).length := by
              have := (List.getElem?_eq_some_iff.mp q).1
              rwa [wipeE_len] at this
            have e5 := aux _ _ _ hk q
            subst e5
            have e6 := List.getElem?_eq_getElem hk2
            rw [e6, aux _ _ _ hk e6]
          · rcases wipeE_some q with z | z
            · subst z
              have aux : ∀ (τ : List Slot) (vs : List Nat), k ∉ vs → (wipeE τ vs)[k]? = τ[k]? := by
                intro τ vs
                induction vs with
                | nil => intro _; rfl
                | cons v vs ih =>
                  intro h
                  simp only [List.mem_cons, not_or] at h
                  unfold wipeE
                  rw [List.getElem?_set_ne (fun e => h.1 e.symm)]
                  exact ih h.2
              rw [aux _ _ hk] at q
              exact q.symm
            · exact z.1.symm
      rw [ww] at e1
      cases eg : g ds[i] (st.wipe own) with
      | none => rw [eg] at e1; cases e1
      | some sg =>
        rw [eg] at e1
        simp only at e1
        refine ⟨st.wipe own, φ, I3, ds[i], sg, R3, hv, eg, fun σ2 O2 R4 => ⟨?_, ?_⟩⟩
        · have q := wipe_ext (σ := L2.wipe σ own) (σ' := σ2) (vs := own) (fun k hk => O2.same k fun z => hk (hts k z)) O2.len
          rw [q]
          refine wipe_ext (fun k hk => wipe_out hk) (wipe_len _ _)
        · have B3 := B.trans (fun j a h => ⟨j, ho j a h⟩) S3.bst
          obtain ⟨cD3, nD3⟩ := own_keep cD nD oD S3.bst
          have oD4 : ∀ j, ¬ Owns sg.env σ2 j Da := fun j h => oD j (O2.ow j Da h)
          have ho4 : ∀ j a, Owns sg.env σ2 j a → Owns st1.env σ j a := fun j a h => ho j a (O2.ow j a h)
          have wσ : L2.wipe σ2 own = L2.wipe σ own := by
            rw [wipe_ext (σ := L2.wipe σ own) (σ' := σ2) (vs := own) (fun k hk => O2.same k fun z => hk (hts k z)) O2.len]
            exact wipe_ext (fun k hk => wipe_out hk) (wipe_len _ _)
          refine ⟨sg, φ, I3, R4, ?_⟩
          cases et : t sg with
          | stuck => rw [et] at e1; cases e1
          | exc c s5 => rw [et] at e1; cases e1
          | ok b s5 =>
            rw [et] at e1
            intro H5 φ5 I5 S5 R5
            have B5 := B3.trans (st1 := sg) (σ1 := σ2) (fun j a h => ⟨j, ho4 j a h⟩) S5.bst
            obtain ⟨cD5, nD5⟩ := own_keep cD3 nD3 oD4 S5.bst
            have ho5 : ∀ j a, Owns s5.env σ2 j a → Owns st1.env σ j a := fun j a h => ho4 j a (S5.ow j a h)
            have oD5 : ∀ j, ¬ Owns s5.env σ2 j Da := fun j h => oD4 j (S5.ow j Da h)
            cases b with
            | false =>
              refine ⟨s5, φ5, I5, acc, ?_, B5, fun j a h => ?_, cD5, nD5, fun j h => ?_, e1⟩
              · have := R5.wipe (own := own)
                rwa [wσ] at this
              · rw [← wσ] at h; exact ho5 j a (wipe_owns h)
              · rw [← wσ] at h; exact oD5 j (wipe_owns h)
            | true =>
              simp only at e1
              refine ⟨s5, φ5, I5, R5, ?_⟩
              cases ee : e.frz s5 with
              | stuck => rw [ee] at e1; cases e1
              | exc c s6 => rw [ee] at e1; cases e1
              | ok x s6 =>
                rw [ee] at e1
                simp only at e1
                by_cases hz : acc.length < lim
                · rw [if_pos hz] at e1
                  intro H6 φ6 I6 S6 R6 y hy
                  have B6 := B5.trans (st1 := s5) (σ1 := σ2) (fun j a h => ⟨j, ho5 j a h⟩) S6.bst
                  obtain ⟨⟨o6, g1, g2, g3⟩, nD6⟩ := own_keep cD5 nD5 oD5 S6.bst
                  cases g3 with
                  | ls g3 =>
                    rename_i vs6
                    refine ⟨vs6, g1, by rw [← g3.len]; exact Nat.lt_trans hz lim_lt, ?_⟩
                    have ho6 : ∀ j a, Owns s6.env σ2 j a → Owns st1.env σ j a := fun j a h => ho5 j a (S6.ow j a h)
                    have oD6 : ∀ j, ¬ Owns s6.env σ2 j Da := fun j h => oD5 j (S6.ow j Da h)
                    have eD : E.H0 Da = none := (R1.fresh hDa).1
                    have U : ∀ b, b ≠ Da → upd H6 Da (.lst (vs6 ++ [y])) b = H6 b := fun b hb => upd_ne hb
                    have R7 : Rp X.K E σ2 (upd H6 Da (.lst (vs6 ++ [y]))) s6 φ6 I6 := by
                      refine ⟨fun b u q => ?_, fun b u q n => ?_, fun b q => ?_, R6.inew, R6.iold, R6.pre, R6.pnew, R6.nd, R6.len, fun j c2 b q1 q2 => ?_, fun b q => ?_, R6.elen, R6.sh, fun j c2 q => ?_, R6.one⟩
                      · rw [U b (fun z => by rw [z, g2] at q; cases q)]; exact R6.ext b u q
                      · rw [U b (fun z => by rw [z, eD] at q; cases q)]; exact R6.keep b u q n
                      · by_cases hb : b = Da
                        · rw [hb, upd_same]; simp
                        · rw [U b hb]; exact R6.there b q
                      · rcases R6.cells j c2 b q1 q2 with z | ⟨u, z1, z2, z3⟩
                        · exact .inl z
                        · exact .inr ⟨u, by rw [U b (fun z => nD6 (z ▸ List.mem_of_getElem? q2))]; exact z1, z2, z3⟩
                      · rw [U b (fun z => nD6 (z ▸ q))]; exact R6.pin b q
                      · obtain ⟨b, z1, ⟨u, z2, z3, z4⟩, z5, z6⟩ := R6.ow j c2 q
                        exact ⟨b, z1, ⟨u, by rw [U b (fun z => oD6 j ⟨c2, q, z ▸ z1⟩)]; exact z2, z3, z4⟩, z5, z6⟩
                    refine ⟨s6, φ6, I6, acc ++ [x], ?_, ?_, fun j a h => ?_, ⟨_, upd_same, g2, .ls (g3.append (.cons hy .nil))⟩, nD6, fun j h => ?_, e1⟩
                    · have := R7.wipe (own := own)
                      rwa [wσ] at this
                    · have hn1 : ∀ b, H1 b ≠ none → b ≠ Da := fun b q z => by rw [z] at q; exact q hDa
                      refine ⟨B6.pf, B6.nf, B6.ii, fun b u q n no => ?_, fun b q => ?_, B6.inf⟩
                      · rw [U b (hn1 b (by rw [q]; simp))]; exact B6.fr b u q n no
                      · rw [U b (hn1 b q)]; exact B6.there b q
                    · rw [← wσ] at h; exact ho6 j a (wipe_owns h)
                    · rw [← wσ] at h; exact oD6 j (wipe_owns h)
                · rw [if_neg hz] at e1
                  cases e1
    · refine .inl ⟨w2 (by omega), ?_⟩
      rw [List.drop_eq_nil_of_le (by omega)] at e1
      unfold mCompL at e1
      cases e1
      refine fin _ H φ I ⟨B.pf, B.nf, B.ii, B.fr, B.there, B.inf, fun j a h => ?_⟩ R.unwipe ⟨Da, rfl, cD, nD, (R1.fresh hDa).1, fun j h => ?_⟩ fun a h => by cases h; exact hDa
      · refine ho j a ?_
        obtain ⟨c, h1, h2⟩ := h
        rcases wipeE_some (show (wipeE st.env own)[j]? = _ from h1) with z | ⟨z1, z2⟩
        · cases z
        · exact ⟨c, h1, by rw [wipe_out z2]; exact h2⟩
      · refine oD j ?_
        obtain ⟨c, h1, h2⟩ := h
        rcases wipeE_some (show (wipeE st.env own)[j]? = _ from h1) with z | ⟨z1, z2⟩
        · cases z
        · exact ⟨c, h1, by rw [wipe_out z2]; exact h2⟩
end
end PM

set_option Elab.async false
set_option linter.all false
set_option maxRecDepth 100000
set_option maxHeartbeats 1200000
namespace PM
open PySem PySem.Spec L2

section
variable {X : Cx} {E : Ent} {W : WX} {pos : Pos} {elt tg iter : Expr} {ifs : List Expr} {scope : Scope} {own : List (Str × Nat)} {ts : List Nat} {mi : M (List D)} {g : D → State → Option State} {t : M Bool} {e : M RV}
theorem rd_lc {σ : L2.St} {H : Hp} {Q : VK} (hts : ∀ i ∈ ts, i ∈ own.map (·.2)) (h : rdR X.K E W (mComp (own.map (·.2)) mi g t e) σ H Q) :
    tLc (rdI X.K E W mi) (rdG X.K E ts g) (rdT X.K E WF t) (rdE X.K E WF e.frz) (own.map (·.2)) σ H Q := by
  obtain ⟨st, φ, I, R, p⟩ := h
  refine ⟨st, φ, I, R, (Po.bind p).imp fun ds H1 st1 φ1 I1 S1 R1 p1 J hJ => ?_⟩
  refine rd_comp hts R1 hJ ?_
  cases e0 : mCompL (own.map (·.2)) g t e ds [] (st1.wipe (own.map (·.2))) with
  | stuck => rw [e0] at p1; exact p1.elim
  | exc c s => rw [e0] at p1; exact p1.elim
  | ok xs st' =>
    rw [e0] at p1
    refine ⟨xs, st', rfl, fun v H' φ' I' S' R' hr hn => p1 H' φ' I' S' R' v hr fun a c _ e2 => ?_⟩
    have := hn a e2
    cases q : H a with
    | none => rfl
    | some o => exact absurd this (S1.there a (by rw [q]; simp))
theorem mComp_ow {own : List Nat} {st st' : State} {r : RV} (h : mComp own mi g t e st = .ok r st') : ∃ xs, r = .ow (.ls xs) := by
  unfold mComp M.bind at h
  cases e0 : mi st with
  | stuck => rw [e0] at h; cases h
  | exc c s => rw [e0] at h; cases h
  | ok ds s =>
    rw [e0] at h
    simp only at h
    cases e1 : mCompL own g t e ds [] (s.wipe own) with
    | stuck => rw [e1] at h; cases h
    | exc c s => rw [e1] at h; cases h
    | ok xs s2 => rw [e1] at h; cases h; exact ⟨xs, rfl⟩
theorem sr_comp (hc : X.calm = true) (hN : X.N.Nodup) (hi : SI X E W tg iter mi) (ok : BlkOk X.N X.env.scope scope own) (hts : ∀ i ∈ ts, i ∈ own.map (·.2))
    (hg : ∀ (s : Shared) (H : Hp) (C : Addr) (cl : List (Str × Addr)) (fp : List Addr), SG (X.blk s H scope (compEnvC scope cl C X.env) fp) E tg ts g)
    (ht : ∀ (s : Shared) (H : Hp) (C : Addr) (cl : List (Str × Addr)) (fp : List Addr), PTs (X.blk s H scope (compEnvC scope cl C X.env) fp) ifs (rdT X.K E WF t))
    (he : ∀ (s : Shared) (H : Hp) (C : Addr) (cl : List (Str × Addr)) (fp : List Addr), SR (X.blk s H scope (compEnvC scope cl C X.env) fp) E WF elt e) (hs : ∀ x, foldedSetIterable iter X.env x = Pure.pure x := by intro _; rfl) :
    SR X E W (.ListComp elt [⟨tg, iter, ifs, 0⟩] scope pos) (mComp (own.map (·.2)) mi g t e) :=
  PEi (pe_lc hc hN hi ok hg ht (fun s H C cl fp => se_frz (he s H C cl fp)) hs) fun _ _ _ h => rd_lc hts h
theorem ss_setLc (i : Nat) {y : Str} {py spos : Pos} (hc : X.calm = true) (hN : X.N.Nodup) (hi : SI X E W tg iter mi) (ok : BlkOk X.N X.env.scope scope own) (hts : ∀ i ∈ ts, i ∈ own.map (·.2))
    (hg : ∀ (s : Shared) (H : Hp) (C : Addr) (cl : List (Str × Addr)) (fp : List Addr), SG (X.blk s H scope (compEnvC scope cl C X.env) fp) E tg ts g)
    (ht : ∀ (s : Shared) (H : Hp) (C : Addr) (cl : List (Str × Addr)) (fp : List Addr), PTs (X.blk s H scope (compEnvC scope cl C X.env) fp) ifs (rdT X.K E WF t))
    (he : ∀ (s : Shared) (H : Hp) (C : Addr) (cl : List (Str × Addr)) (fp : List Addr), SR (X.blk s H scope (compEnvC scope cl C X.env) fp) E WF elt e)
    (hy : X.N[i]? = some y := by rfl) (hyl : X.env.scope.names.lookup y = some .local := by rfl) (hsw : swapsWith (.ListComp elt [⟨tg, iter, ifs, 0⟩] scope pos) (some (.Name y py)) spos.line X.env = Pure.pure true := by exact sw_true rfl rfl rfl (by decide +kernel)) (hs : ∀ x, foldedSetIterable iter X.env x = Pure.pure x := by intro _; rfl) :
    SS X E W (.Assign [.Name y py] (.ListComp elt [⟨tg, iter, ifs, 0⟩] scope pos) spos) (mSet i (mComp (own.map (·.2)) mi g t e)) :=
  PSi (ps_setLc hc hN hy hyl hsw hi ok hg ht (fun s H C cl fp => se_frz (he s H C cl fp)) hs) fun D σ H ⟨st, φ, I, R, p⟩ => by
    refine rd_lc (g := g) (t := t) (e := e) hts ⟨st, φ, I, R, ?_⟩
    have p1 := Ps.then (σ := σ) (H := H) p
    unfold M.fix M.bind at p1
    cases e0 : mComp (own.map (·.2)) mi g t e st with
    | stuck => rw [e0] at p1; exact p1.elim
    | exc c s => rw [e0] at p1; exact p1
    | ok r s =>
      obtain ⟨xs, rfl⟩ := mComp_ow e0
      rw [e0] at p1
      exact fun H1 φ1 I1 S1 R1 v hv _ => (p1 H1 φ1 I1 S1 R1) _ H1 φ1 I1 Grow.refl (R1.setR hv)

/-! ### methods that change a list -/
def isLs : D → Option Unit
  | .lst _ => some ()
  | _ => none
/-- a method of a list: f of the items and the arguments gives the value and the new items -/
def lsC (f : List D → List D → Option (D × List D)) (args : List D) : Cell → Option (D × Cell)
  | .ls ds => (f ds args).map fun p => (p.1, .ls p.2)
  | _ => none
def mMut (f : List D → List D → Option (D × List D)) (a : M RV) (args : M (List D)) : M RV := a.bor.bind fun r => (at1 isLs r).bind fun _ => args.bind fun ds st => match upC (lsC f ds) r st with
  | some (d, st') => .ok (.sh d) st'
  | none => .stuck
/-- the rule of such a method -/
def MutR (X : Cx) (E : Ent) (id : String) (f : List D → List D → Option (D × List D)) : Prop := ∀ (σ : L2.St) (H : Hp) (st : State) (φ : List Addr) (I : Hp) (a : Addr) (vs us : List V) (ds es ds' : List D) (d : D) (Q : VK), Rp X.K E σ H st φ I → H a = some (.lst vs) → Rvs X.K φ I ds vs → Rvs X.K φ I es us → f ds es = some (d, ds') →
  (∀ u vs', Rv X.K φ I d u → Rvs X.K φ I ds' vs' → Q u (upd H a (.lst vs'))) → ∃ r, MtR X id r ∧ r (.ref a) us H Q
def rdM (K : PySem.W.Frag) (E : Ent) (f : List D → List D → Option (D × List D)) : V → List V → Hp → VK → Prop := fun x us H Q => ∃ (σ : L2.St) (st : State) (φ : List Addr) (I : Hp) (a : Addr) (vs : List V) (ds es ds' : List D) (d : D), x = .ref a ∧ Rp K E σ H st φ I ∧ H a = some (.lst vs) ∧ Rvs K φ I ds vs ∧ Rvs K φ I es us ∧ f ds es = some (d, ds') ∧
  ∀ u vs', Rv K φ I d u → Rvs K φ I ds' vs' → Q u (upd H a (.lst vs'))
theorem mt_of {id : String} {f : List D → List D → Option (D × List D)} (h : MutR X E id f) : MtR X id (rdM X.K E f) := fun pins s σ' H x us v ws Q I0 rx rv ⟨σ, st, φ, I, a, vs, ds, es, ds', d, ex, R, g1, g2, g3, g4, q⟩ => by
  subst ex
  obtain ⟨r, h1, h2⟩ := h σ H st φ I a vs us ds es ds' d Q R g1 g2 g3 g4 q
  exact h1 pins s σ' H (.ref a) us v ws Q I0 rx rv h2
theorem view_bor {σ : L2.St} {H : Hp} {st : State} {φ : List Addr} {I : Hp} {r : RV} {v : V} {ds : List D} (R : Rp X.K E σ H st φ I) (hr : Rr X.K E σ H st φ I r v) (e : view st r = some (.lst ds)) : ∃ a vs, v = .ref a ∧ H a = some (.lst vs) ∧ Rvs X.K φ I ds vs := (hr.seen Stp.refl R e).lst R.ext
theorem rd_mut {o : M RV} {args : M (List D)} {f : List D → List D → Option (D × List D)} {σ : L2.St} {H : Hp} {Q : VK} (h : rdR X.K E W (mMut f o args) σ H Q) : tBM X.K "list" (rdM X.K E f) (rdR X.K E W o.bor) (rdA X.K E W args) σ H Q := by
  obtain ⟨st, φ, I, R, p⟩ := h
  unfold mMut at p
  refine ⟨st, φ, I, R, ?_⟩
  have p0 := Po.bind p
  unfold M.bor M.bind at p0 ⊢
  cases e0 : o st with
  | stuck => rw [e0] at p0; exact p0.elim
  | exc c s => rw [e0] at p0; exact p0
  | ok r0 st1 =>
    rw [e0] at p0
    intro H1 φ1 I1 S1 R1 v hv _
    have p1 := Po.bind (p0 H1 φ1 I1 S1 R1)
    obtain ⟨x, _, ex, e1, p2⟩ := Po.at1 p1
    cases x <;> try (cases e1; done)
    obtain ⟨a, vs, rfl, g1, g2⟩ := view_bor R1 hv ex
    refine ⟨.inl ⟨rfl, vs, .inl (.inl g1)⟩, st1, φ1, I1, R1, (Po.bind (p2 H1 φ1 I1 Stp.refl R1)).imp fun es H2 st2 φ2 I2 S2 R2 p3 us hus => ?_⟩
    cases e3 : upC (lsC f es) r0.bor st2 with
    | none => rw [e3] at p3; exact p3.elim
    | some q =>
      obtain ⟨d, st3⟩ := q
      rw [e3] at p3
      obtain ⟨a', c, c', ob, e4, g3, g4, g5, g6⟩ := R2.up (f := lsC f es) rfl (hv.step S2 bor_no) e3
      cases e4
      cases g4 <;> try (cases g5; done)
      rename_i ds2 vs2 g4
      obtain ⟨⟨d', ds'⟩, e5, e6⟩ := Option.map_eq_some_iff.mp g5
      cases e6
      refine ⟨σ, st2, φ2, I2, a, vs2, ds2, es, _, _, rfl, R2, g3, g4, hus, e5, fun u vs' hu hvs' => ?_⟩
      obtain ⟨R3, S3⟩ := g6 _ (.ls hvs')
      exact p3 _ φ2 I2 S3 R3 u hu Nw.sh
variable {o a b : Expr} {mo ma mb : M RV} {es : List Expr} {mas : M (List D)} {name : Str} {id : String} {apos cpos : Pos} {f : List D → List D → Option (D × List D)}
theorem sr_mut (hm : MutR X E id f) (slot : PySem.Slot "list" name id) (hty : typeOf (.builtin id) = Pure.pure (.type "method_descriptor")) (ho : SR X E W o mo) (ha : SA X E W (a :: es) mas)
    (hbase : attributeBase o name X.env (eval o X.env) = eval o X.env := by rfl)
    (hfew : ((backTo cpos (starEach (a :: es) X.env)).all (fun x => !x.1) && (backToKw cpos (keywordEach [] X.env)).all (fun x => x.1.isSome)
      && decide ((a :: es).length + ([] : List Keyword).length + (if ([] : List Keyword).isEmpty then 0 else 1) < 30)) = true := by rfl)
    (hline : (apos.endLine == cpos.line) = true := by rfl) (hs : starEach (a :: es) X.env = (false, eval a X.env) :: starEach es X.env := by rfl) (hplain : (backTo cpos (starEach es X.env)).any (·.1) = false := by rfl) :
    SR X E W (.Call (.Attribute o name apos) (a :: es) [] cpos) (mMut f mo mas) := PEi (pe_bm PySem.F.plainAttrs_list slot hty (mt_of hm) (sr_bor ho) ha hbase hfew hline hs hplain) fun _ _ _ h => rd_mut h
theorem sr_mut0 (hm : MutR X E id f) (slot : PySem.Slot "list" name id) (hty : typeOf (.builtin id) = Pure.pure (.type "method_descriptor")) (ho : SR X E W o mo)
    (hbase : attributeBase o name X.env (eval o X.env) = eval o X.env := by rfl) (hline : (apos.endLine == cpos.line) = true := by rfl) :
    SR X E W (.Call (.Attribute o name apos) [] [] cpos) (mMut f mo mNil) := PEi (pe_bm0 PySem.F.plainAttrs_list slot hty (mt_of hm) (sr_bor ho) hbase hline) fun σ H Q h => by
  obtain ⟨st, φ, I, R, p⟩ := rd_mut h
  exact ⟨st, φ, I, R, p.imp fun r H1 st1 φ1 I1 S1 R1 q v hv hn => by
    obtain ⟨h1, st2, φ2, I2, R2, h2⟩ := q v hv hn
    exact ⟨h1, h2.pure R2 [] .nil⟩⟩
def fApp (ds : List D) : List D → Option (D × List D)
  | [d] => if ds.length < lim then some (.non, ds ++ [d]) else none
  | _ => none
theorem mu_app : MutR X E "list.append" fApp := fun σ H st φ I a vs us ds es ds' d Q R g1 g2 g3 g4 q => by
  match es, g3, g4 with
  | [x], .cons hx .nil, g4 =>
    simp only [fApp] at g4
    by_cases hz : ds.length < lim
    · rw [if_pos hz] at g4
      cases g4
      exact ⟨_, mt_append, a, vs, _, rfl, rfl, g1, by rw [← g2.len]; exact Nat.lt_trans hz lim_lt, q _ _ .non (g2.append (.cons hx .nil))⟩
    · rw [if_neg hz] at g4
      cases g4
def fPop (ds : List D) : List D → Option (D × List D)
  | [] => ds.getLast?.map fun d => (d, ds.dropLast)
  | [.int i] => if 0 ≤ i ∧ i < 1000000 then (ds[i.toNat]?).map fun d => (d, ds.eraseIdx i.toNat) else none
  | _ => none
theorem Rvs.dropLast {K : PySem.W.Frag} {φ : List Addr} {I : Hp} {ds : List D} {vs : List V} (h : Rvs K φ I ds vs) : Rvs K φ I ds.dropLast vs.dropLast := by
  rw [List.dropLast_eq_take, List.dropLast_eq_take, h.len]
  exact h.take _
theorem Rvs.erase {K : PySem.W.Frag} {φ : List Addr} {I : Hp} {ds : List D} {vs : List V} (h : Rvs K φ I ds vs) (n : Nat) : Rvs K φ I (ds.eraseIdx n) (vs.eraseIdx n) := by
  rw [List.eraseIdx_eq_take_drop_succ, List.eraseIdx_eq_take_drop_succ]
  exact (h.take n).append (h.drop _)
theorem mu_pop : MutR X E "list.pop" fPop := fun σ H st φ I a vs us ds es ds' d Q R g1 g2 g3 g4 q => by
  match es, g3, g4 with
  | [], .nil, g4 =>
    simp only [fPop] at g4
    obtain ⟨x, e1, e2⟩ := Option.map_eq_some_iff.mp g4
    cases e2
    rw [List.getLast?_eq_getElem?] at e1
    obtain ⟨v, e3, e4⟩ := g2.get e1
    exact ⟨_, mt_pop, a, vs, v, rfl, rfl, g1, by rw [← g2.len]; exact e3, q _ _ e4 g2.dropLast⟩
  | [.int i], .cons hx .nil, g4 =>
    cases hx
    simp only [fPop] at g4
    by_cases hz : 0 ≤ i ∧ i < 1000000
    · rw [if_pos hz] at g4
      obtain ⟨x, e1, e2⟩ := Option.map_eq_some_iff.mp g4
      cases e2
      obtain ⟨v, e3, e4⟩ := g2.get e1
      have hl : i.toNat < vs.length := (List.getElem?_eq_some_iff.mp e3).1
      exact ⟨_, mt_popAt, a, vs, i, i.toNat, v, rfl, rfl, g1, by omega, by omega, PySem.seqIndex_of hz.1 (by omega), e3, q _ _ e4 (g2.erase _)⟩
    · rw [if_neg hz] at g4
      cases g4
def fClr (ds : List D) : List D → Option (D × List D)
  | [] => some (.non, [])
  | _ => none
theorem mu_clr : MutR X E "list.clear" fClr := fun σ H st φ I a vs us ds es ds' d Q R g1 g2 g3 g4 q => by
  match es, g3, g4 with
  | [], .nil, g4 =>
    cases g4
    exact ⟨_, mt_clear, a, vs, rfl, rfl, g1, q _ _ .non .nil⟩
def fExt (ds : List D) : List D → Option (D × List D)
  | [.lst es] => if ds.length + es.length ≤ lim then some (.non, ds ++ es) else none
  | _ => none
theorem mu_ext : MutR X E "list.extend" fExt := fun σ H st φ I a vs us ds es ds' d Q R g1 g2 g3 g4 q => by
  match es, g3, g4 with
  | [.lst xs], .cons hx .nil, g4 =>
    simp only [fExt] at g4
    by_cases hz : ds.length + xs.length ≤ lim
    · rw [if_pos hz] at g4
      cases g4
      cases hx with
      | lst h1 h2 =>
        exact ⟨_, mt_extend, a, _, vs, _, rfl, rfl, g1, R.ext _ _ h1, by rw [← g2.len, ← h2.len]; exact Nat.le_trans hz lim_le, q _ _ .non (g2.append h2)⟩
    · rw [if_neg hz] at g4
      cases g4

/-! ### methods of texts -/
variable {g0 : D → Option RV} {g2 : D → D → Option RV}
def isSt : D → Option Unit
  | .str _ => some ()
  | _ => none
def mS0 (g : D → Option RV) (a : M RV) : M RV := a.bor.bind fun r => (at1 isSt r).bind fun _ => at1 g r
def mS1 (g : D → D → Option RV) (a b : M RV) : M RV := a.bor.bind fun r => (at1 isSt r).bind fun _ => b.bor.bind fun s => at2 g r s
def rdM1 (K : PySem.W.Frag) (E : Ent) (g : D → D → Option RV) : V → List V → Hp → VK → Prop := fun x us H Q => ∃ y, us = [y] ∧ rdO K E g x y H Q
theorem mt1_cases {r : V → List V → Hp → VK → Prop} (h : ∀ x us H Q, r x us H Q → ∃ r', MtR X id r' ∧ r' x us H Q) : MtR X id r := fun pins s σ H x us v ws Q I rx rv q => by
  obtain ⟨r', h1, h2⟩ := h _ _ _ _ q
  exact h1 pins s σ H x us v ws Q I rx rv h2
theorem sr_s1 (hm : MtR X id (rdM1 X.K E g2)) (slot : PySem.Slot "str" name id) (hty : typeOf (.builtin id) = Pure.pure (.type "method_descriptor")) (ho : SR X E W o mo) (ha : SR X E W a ma)
    (hs : starEach [a] X.env = [(false, eval a X.env)] := by rfl) (hbase : attributeBase o name X.env (eval o X.env) = eval o X.env := by rfl) (hline : (apos.endLine == cpos.line) = true := by rfl) :
    SR X E W (.Call (.Attribute o name apos) [a] [] cpos) (mS1 g2 mo ma) := PEi (pe_m1 slot hty hm (sr_bor ho) (sr_bor ha) hs hbase hline) fun σ H Q ⟨st, φ, I, R, p⟩ => by
  refine ⟨st, φ, I, R, (Po.bind p).imp fun r H1 st1 φ1 I1 S1 R1 p1 v hv _ => ?_⟩
  obtain ⟨x, _, ex, e1, p2⟩ := Po.at1 (Po.bind p1)
  cases x <;> try (cases e1; done)
  refine ⟨⟨_, (hv.seen Stp.refl R1 ex).str⟩, st1, φ1, I1, R1, (Po.bind (p2 H1 φ1 I1 Stp.refl R1)).imp fun s H2 st2 φ2 I2 S2 R2 p3 w hw _ => ?_⟩
  obtain ⟨x', y', rr, ex', ey, e, p4⟩ := Po.at2 p3
  exact ⟨w, rfl, σ, st2, φ2, I2, x', y', rr, R2, hv.seen S2 R2 ex', hw.seen Stp.refl R2 ey, e, fun u H' I' S' R' hr hn => p4 H' φ2 I' S' R' u hr (Nw.far (S1.trans S2).there hn)⟩
def opZf : D → D → Option RV
  | .str z, .int i => if PadOk i then some (.sh (.str (Txt.zfill z i))) else none
  | _, _ => none
theorem mt_zf : MtR X "str.zfill" (rdM1 X.K E opZf) := mt1_cases fun v us H Q ⟨w, e0, σ, st, φ, I, x, y, r, R, hx, hy, e, q⟩ => by
  subst e0
  cases x <;> try (simp [opZf] at e; done)
  all_goals cases y <;> try (simp [opZf] at e; done)
  rename_i z i
  simp only [opZf] at e
  by_cases h : PadOk i = true
  · rw [if_pos h] at e
    cases e
    exact ⟨_, mt_zfill, z, i, hx.str, by rw [hy.int], h, q.sh R (.str _)⟩
  · rw [if_neg h] at e
    cases e
def opPart : D → D → Option RV
  | .str a, .str b => if (b.length == 0) = false ∧ a.length ≤ lim then some (.sh (.tup [.str (Txt.partition a b).1, .str (Txt.partition a b).2.1, .str (Txt.partition a b).2.2])) else none
  | _, _ => none
theorem mt_part : MtR X "str.partition" (rdM1 X.K E opPart) := mt1_cases fun v us H Q ⟨w, e0, σ, st, φ, I, x, y, r, R, hx, hy, e, q⟩ => by
  subst e0
  cases x <;> try (simp [opPart] at e; done)
  all_goals cases y <;> try (simp [opPart] at e; done)
  rename_i a b
  simp only [opPart] at e
  by_cases h : (b.length == 0) = false ∧ a.length ≤ lim
  · rw [if_pos h] at e
    cases e
    exact ⟨_, mt_partition, a, b, hx.str, by rw [hy.str], h.1, Nat.le_trans h.2 lim_le, q.tup R (.cons (.str _) (.cons (.str _) (.cons (.str _) .nil)))⟩
  · rw [if_neg h] at e
    cases e
end
end PM

set_option Elab.async false
set_option linter.all false
set_option maxRecDepth 100000
set_option maxHeartbeats 1200000
namespace PM
open PySem PySem.Spec L2

/-! ### a new thing goes to the store -/
section
variable {K : PySem.W.Frag} {E : Ent} {σ : L2.St} {H H0 : Hp} {st st0 : State} {φ φ0 : List Addr} {I I0 : Hp}
theorem Rp.store (R : Rp K E σ H st φ I) (S : Stp σ H0 st0 φ0 I0 H st φ I) {c : Cell} {v : V} (h : Rr K E σ H st φ I (.ow c) v) (hf : Nw σ H0 st0 (.ow c) v) :
    ∃ a, v = .ref a ∧ Rp K E σ H { st with store := st.store ++ [c] } (φ ++ [a]) I ∧ Stp σ H0 st0 φ0 I0 H { st with store := st.store ++ [c] } (φ ++ [a]) I := by
  obtain ⟨a, rfl, h1, h2, h3, h4⟩ := h
  have pf : φ <+: φ ++ [a] := ⟨[a], rfl⟩
  refine ⟨a, rfl, ⟨R.ext, R.keep, R.there, fun b z n => ?_, R.iold, ?_, fun b z => ?_, ?_, by simp [R.len], fun i c' b e1 e2 => ?_, fun b z => ?_, R.elen, fun i d e => ?_, fun i c' e => ?_, R.one⟩, ?_⟩
  · exact R.inew b z n
  · obtain ⟨m, e⟩ := R.pre
    exact ⟨m ++ [a], by rw [e, List.append_assoc]⟩
  · rcases List.mem_append.mp z with z | z
    · exact R.pnew b z
    · rw [List.mem_singleton.mp z]; exact .inr h3
  · refine List.nodup_append.mpr ⟨R.nd, by simp, fun x hx y hy e => ?_⟩
    rw [List.mem_singleton.mp hy] at e
    exact h2 (e ▸ hx)
  · by_cases hi : i < st.store.length
    · rw [List.getElem?_append_left hi] at e1
      rw [List.getElem?_append_left (by rw [R.len]; exact hi)] at e2
      rcases R.cells i c' b e1 e2 with z | z
      · exact .inl z
      · exact .inr (z.mono pf (Ex.refl _) z.choose_spec.2.1 fun _ q => q)
    · rw [List.getElem?_append_right (by omega)] at e1
      rw [List.getElem?_append_right (by rw [R.len]; omega), R.len] at e2
      have hz : i - st.store.length = 0 := by
        by_cases q : i - st.store.length = 0
        · exact q
        · rw [List.getElem?_eq_none (by simp; omega)] at e1
          cases e1
      rw [hz] at e1 e2
      cases e1
      cases e2
      exact .inr (h1.mono pf (Ex.refl _) h1.choose_spec.2.1 fun _ q => q)
  · rcases List.mem_append.mp z with z | z
    · exact R.pin b z
    · rw [List.mem_singleton.mp z, h1.choose_spec.1]; simp
  · obtain ⟨v, q1, q2⟩ := R.sh i d e
    exact ⟨v, q1, q2.mono pf (Ex.refl _)⟩
  · obtain ⟨b, q1, q2, q3, q4⟩ := R.ow i c' e
    refine ⟨b, q1, q2.mono pf (Ex.refl _) q2.choose_spec.2.1 fun _ q => q, fun z => ?_, q4⟩
    rcases List.mem_append.mp z with z | z
    · exact q3 z
    · have z := List.mem_singleton.mp z
      subst z
      exact h4 i ⟨c', e, q1⟩
  · refine ⟨S.pf.trans pf, fun b z n => ?_, S.ii, S.fr, S.there, S.inf, S.ow⟩
    rcases List.mem_append.mp z with z | z
    · exact S.nf b z n
    · rw [List.mem_singleton.mp z]; exact hf a c rfl rfl
end
/-- a new thing, known to all from now on -/
def mNew (m : M RV) : M RV := m.bind fun r st => match r with
  | .ow c => .ok (.sh (.obj st.store.length)) { st with store := st.store ++ [c] }
  | _ => .stuck

section
variable {X : Cx} {E : Ent} {W : WX} {pos : Pos} {e a b : Expr} {m ma mb : M RV}
theorem sr_new (h : SR X E W e m) : SR X E W e (mNew m) := PEi h fun σ H Q ⟨st, φ, I, R, p⟩ => by
  refine ⟨st, φ, I, R, ?_⟩
  unfold mNew M.bind at p
  cases e1 : m st with
  | stuck => rw [e1] at p; exact p.elim
  | exc c s => rw [e1] at p; exact p
  | ok r st1 =>
    rw [e1] at p
    cases r with
    | sh d => exact p.elim
    | lo i => exact p.elim
    | ow c =>
      intro H1 φ1 I1 S1 R1 v hr hn
      obtain ⟨a, rfl, R2, S2⟩ := R1.store S1 hr hn
      refine p H1 (φ1 ++ [a]) I1 S2 R2 _ (.obj ?_) Nw.sh
      rw [← R1.len]
      exact List.getElem?_concat_length ..

/-! ### a dict display -/
def mPr : List (M RV × M RV) → M (List (D × D))
  | [] => M.pure []
  | (k, v) :: r => k.frz.bind fun x => v.frz.bind fun y => (mPr r).bind fun ps => M.pure ((x, y) :: ps)
def asKs : List (D × D) → Option (List (Key × D))
  | [] => some []
  | (k, v) :: r => (asKey k).bind fun x => (asKs r).map fun ps => (x, v) :: ps
def mergeD (kvs more : List (Key × D)) : List (Key × D) := more.foldl (fun acc kv => dput acc kv.1 kv.2) kvs
def mDisp (trs : List (M RV × M RV)) : M RV := (mPr trs).bind fun ps => match asKs ps with
  | some kvs => if kvs.length ≤ 15 then M.pure (.ow (.dc (mergeD [] kvs))) else M.stuck
  | none => M.stuck
abbrev SPr (X : Cx) (E : Ent) (W : WX) (pos : Pos) (ks : List (Option Expr)) (vs : List Expr) (trs : List (M RV × M RV)) : Prop := PPs X pos ks vs (trs.map fun p => (rdE X.K E W p.1.frz, rdE X.K E W p.2.frz))
variable {ks : List (Option Expr)} {vs : List Expr} {trs : List (M RV × M RV)}
theorem spr_nil : SPr X E W pos [] [] [] := pps_nil
theorem spr_cons (ha : SR X E W a ma) (hb : SR X E W b mb) (hr : SPr X E W pos ks vs trs) : SPr X E W pos (some a :: ks) (b :: vs) ((ma, mb) :: trs) := pps_cons (se_frz ha) (se_frz hb) hr
inductive Prs (K : PySem.W.Frag) (φ : List Addr) (I : Hp) : List (D × D) → List (V × V) → Prop
  | nil : Prs K φ I [] []
  | cons {x y : D} {u v : V} {r s} : Rv K φ I x u → Rv K φ I y v → Prs K φ I r s → Prs K φ I ((x, y) :: r) ((u, v) :: s)
theorem rd_pr {K : PySem.W.Frag} : ∀ {trs : List (M RV × M RV)} {σ : L2.St} {H : Hp} {st : State} {φ : List Addr} {I : Hp} {k : List (D × D) → Hp → State → List Addr → Hp → Prop} {Q : List (V × V) → Hp → Prop}, Rp K E σ H st φ I → Po K E W σ (mPr trs st) H st φ I k →
    (∀ ps us H' st' φ' I', Stp σ H st φ I H' st' φ' I' → Rp K E σ H' st' φ' I' → Prs K φ' I' ps us → k ps H' st' φ' I' → Q us H') → tPairs (trs.map fun p => (rdE K E W p.1.frz, rdE K E W p.2.frz)) σ H Q
  | [], σ, H, st, φ, I, k, Q, R, p, h => h [] [] H st φ I Stp.refl R .nil (p.pure R)
  | (a, b) :: r, σ, H, st, φ, I, k, Q, R, p, h => by
    refine ⟨st, φ, I, R, (Po.bind p).imp fun x H1 st1 φ1 I1 S1 R1 p1 u hu => ?_⟩
    refine ⟨st1, φ1, I1, R1, (Po.bind p1).imp fun y H2 st2 φ2 I2 S2 R2 p2 v hv => ?_⟩
    refine rd_pr R2 (Po.bind p2) fun ps us H3 st3 φ3 I3 S3 R3 hp p3 => ?_
    exact h _ _ H3 st3 φ3 I3 ((S1.trans S2).trans S3) R3 (.cons (hu.mono (S2.pf.trans S3.pf) (S2.ii.trans S3.ii)) (hv.mono S3.pf S3.ii) hp) (p3.pure R3)
theorem prs_keys {K : PySem.W.Frag} {φ : List Addr} {I : Hp} : ∀ {ps : List (D × D)} {us : List (V × V)} {kvs : List (Key × D)}, Prs K φ I ps us → asKs ps = some kvs → ∃ ws : List (Key × V), us = ws.map (fun kv => (kV kv.1, kv.2)) ∧ ws.map (·.1) = kvs.map (·.1) ∧ Rvs K φ I (kvs.map (·.2)) (ws.map (·.2))
  | [], _, _, .nil, e => by cases e; exact ⟨[], rfl, rfl, .nil⟩
  | (x, y) :: r, _, _, .cons hx hy hr, e => by
    obtain ⟨k, e1, e2⟩ := Option.bind_eq_some_iff.mp e
    obtain ⟨ps, e3, rfl⟩ := Option.map_eq_some_iff.mp e2
    obtain ⟨ws, rfl, h1, h2⟩ := prs_keys hr e3
    have := asKey_rv hx e1
    subst this
    exact ⟨(k, _) :: ws, rfl, by simp [h1], .cons hy h2⟩
theorem mergeD_rel {K : PySem.W.Frag} {φ : List Addr} {I : Hp} : ∀ {more : List (Key × D)} {ws : List (Key × V)} {kvs : List (Key × D)} {us : List (Key × V)}, us.map (·.1) = kvs.map (·.1) → Rvs K φ I (kvs.map (·.2)) (us.map (·.2)) → ws.map (·.1) = more.map (·.1) → Rvs K φ I (more.map (·.2)) (ws.map (·.2)) →
    (mergeK us ws).map (·.1) = (mergeD kvs more).map (·.1) ∧ Rvs K φ I ((mergeD kvs more).map (·.2)) ((mergeK us ws).map (·.2))
  | [], [], _, _, h1, h2, _, _ => ⟨h1, h2⟩
  | [], _ :: _, _, _, _, _, h3, _ => by cases h3
  | _ :: _, [], _, _, _, _, h3, _ => by cases h3
  | (k, d) :: more, (k', v) :: ws, kvs, us, h1, h2, h3, h4 => by
    simp only [List.map_cons, List.cons.injEq] at h3 h4
    obtain ⟨rfl, h3⟩ := h3
    cases h4 with
    | cons h4 h5 =>
      obtain ⟨q1, q2⟩ := dput_rel (k := k') h1 h2 h4
      show (mergeK (putK us k' v) ws).map (·.1) = (mergeD (dput kvs k' d) more).map (·.1) ∧ Rvs K φ I ((mergeD (dput kvs k' d) more).map (·.2)) ((mergeK (putK us k' v) ws).map (·.2))
      exact mergeD_rel (kvs := dput kvs k' d) (us := putK us k' v) q1 q2 h3 h5
theorem Po.from {K : PySem.W.Frag} {α : Type} {o : Out α} {σ : L2.St} {H H1 : Hp} {st st1 : State} {φ φ1 : List Addr} {I I1 : Hp} {k : α → Hp → State → List Addr → Hp → Prop} (S : Stp σ H st φ I H1 st1 φ1 I1) (h : Po K E W σ o H st φ I k) : Po K E W σ o H1 st1 φ1 I1 k := by
  cases o with
  | ok a st => exact fun H' φ' I' S' => h H' φ' I' (S.trans S')
  | exc c st => exact fun d H' φ' I' S' => h d H' φ' I' (S.trans S')
  | stuck => exact h
theorem Po.bindA {K : PySem.W.Frag} {α β : Type} {m : M α} {f : α → M β} {σ : L2.St} {H : Hp} {st : State} {φ : List Addr} {I : Hp} {k : β → Hp → State → List Addr → Hp → Prop} (h : Po K E W σ (m.bind f st) H st φ I k) :
    Po K E W σ (m st) H st φ I fun a _ st1 _ _ => Po K E W σ (f a st1) H st φ I k := by
  unfold M.bind at h
  cases e : m st with
  | ok a st1 => rw [e] at h; exact fun _ _ _ _ _ => h
  | exc c st1 => rw [e] at h; exact h
  | stuck => rw [e] at h; exact h
/-- a thing that nobody knows of changes -/
theorem Rp.updN {K : PySem.W.Frag} {σ : L2.St} {H : Hp} {st : State} {φ : List Addr} {I : Hp} {q : Addr} (R : Rp K E σ H st φ I) (hI : I q = none) (hφ : q ∉ φ) (h0 : E.H0 q = none) (ho : ∀ i, ¬ Owns st.env σ i q) (o : HO) : Rp K E σ (upd H q o) st φ I := by
  refine ⟨fun a u e => ?_, fun a u e n => ?_, fun a h => ?_, R.inew, R.iold, R.pre, R.pnew, R.nd, R.len, fun i c a h1 h2 => ?_, fun a h => ?_, R.elen, R.sh, fun i c h => ?_, R.one⟩
  · rw [upd_ne (show a ≠ q from fun z => by rw [z, hI] at e; cases e)]; exact R.ext a u e
  · rw [upd_ne (show a ≠ q from fun z => by rw [z, h0] at e; cases e)]; exact R.keep a u e n
  · by_cases hb : a = q
    · rw [hb, upd_same]; simp
    · rw [upd_ne hb]; exact R.there a h
  · rcases R.cells i c a h1 h2 with z | ⟨u, z1, z2, z3⟩
    · exact .inl z
    · exact .inr ⟨u, by rw [upd_ne (show a ≠ q from fun z => hφ (z ▸ List.mem_of_getElem? h2))]; exact z1, z2, z3⟩
  · by_cases hb : a = q
    · rw [hb, upd_same]; simp
    · rw [upd_ne hb]; exact R.pin a h
  · obtain ⟨a, h1, ⟨u, z1, z2, z3⟩, h3, h4⟩ := R.ow i c h
    exact ⟨a, h1, ⟨u, by rw [upd_ne (show a ≠ q from fun z => ho i ⟨c, h, z ▸ h1⟩)]; exact z1, z2, z3⟩, h3, h4⟩
theorem Stp.updN {σ : L2.St} {H H0 : Hp} {st st0 : State} {φ φ0 : List Addr} {I I0 : Hp} {q : Addr} (S : Stp σ H0 st0 φ0 I0 H st φ I) (hq : H0 q = none) (o : HO) : Stp σ H0 st0 φ0 I0 (upd H q o) st φ I :=
  ⟨S.pf, S.nf, S.ii, fun a u e n h => by rw [upd_ne (show a ≠ q from fun z => by rw [z, hq] at e; cases e)]; exact S.fr a u e n h, fun a h => by
    by_cases hb : a = q
    · rw [hb, upd_same]; simp
    · rw [upd_ne hb]; exact S.there a h, S.inf, S.ow⟩
theorem sr_disp (h : SPr X E W pos ks vs trs) (hall : ks.all (·.isSome) = true := by rfl) (hl : ks.length = vs.length := by rfl) (h0 : ks ≠ [] := by exact List.cons_ne_nil _ _) (h15 : ks.length ≤ 15 := by decide) : SR X E W (.Dict ks vs pos) (mDisp trs) := PEi (pe_disp h hall hl h0 h15) fun σ H Q ⟨st, φ, I, R, p⟩ => by
  intro q hq
  obtain ⟨R1, S1⟩ := R.laidO hq (.dK [])
  obtain ⟨h0, hφ, hI, ho⟩ := R.fresh hq
  refine rd_pr R1 (Po.from S1 (Po.bindA p)) fun ps us H3 st3 φ3 I3 S3 R3 hp p3 => ?_
  have own3 : ∀ i, ¬ Owns st3.env σ i q := fun i z => ho i (S3.ow i q z)
  have e3 : H3 q = some (.dK []) := S3.fr q _ upd_same hφ ho
  have i3 : I3 q = none := by
    cases z : I3 q with
    | none => rfl
    | some u =>
      rcases S3.inf q (by rw [z]; simp) hI with y | y | ⟨i, y⟩
      · rw [upd_same] at y; cases y
      · exact absurd y hφ
      · exact absurd y (ho i)
  have f3 : q ∉ φ3 := fun z => by
    have := S3.nf q z hφ
    rw [upd_same] at this
    cases this
  refine ⟨e3, ?_⟩
  cases ek : asKs ps with
  | none => rw [ek] at p3; exact p3.elim
  | some kvs =>
    rw [ek] at p3
    by_cases hz : kvs.length ≤ 15
    · simp only [if_pos hz] at p3
      obtain ⟨ws, rfl, h1, h2⟩ := prs_keys hp ek
      obtain ⟨m1, m2⟩ := mergeD_rel (kvs := []) (us := []) rfl .nil h1 h2
      refine ⟨ws, rfl, ?_, ?_⟩
      · have := congrArg List.length h1
        rw [List.length_map, List.length_map] at this
        omega
      · have R4 := R3.updN i3 f3 h0 own3 (.dK (mergeK [] ws))
        exact p3 _ φ3 I3 ((S1.trans S3).updN hq _) R4 _ ⟨q, rfl, ⟨_, upd_same, i3, .dc m1 m2⟩, f3, h0, own3⟩ fun a c _ e => by cases e; exact hq
    · simp only [if_neg hz] at p3
      exact p3.elim
end
end PM

set_option Elab.async false
set_option linter.all false
set_option maxRecDepth 100000
set_option maxHeartbeats 1200000
namespace PM
open PySem PySem.Spec L2

section
variable {X : Cx} {E : Ent} {W : WX} {pos : Pos} {e a b : Expr} {m ma mb : M RV}
/-! ### is, in -/
def opIs2 : D → D → Option Bool
  | .bl x, .bl y => some (decide (x = y))
  | x, y => opIs x y
def opIsNot2 (x y : D) : Option Bool := (opIs2 x y).map (!·)
theorem ob_is2 : OpB X E (compareOp .Is) opIs2 := op_cases fun v w H Q ⟨σ, st, φ, I, x, y, r, R, hx, hy, e, q⟩ => by
  by_cases h : ∃ a b, x = .bl a ∧ y = .bl b
  · obtain ⟨a, b, rfl, rfl⟩ := h
    cases e
    exact ⟨_, op_is_bl, a, b, hx.bl, hy.bl, q⟩
  · have e' : opIs x y = some r := by
      unfold opIs2 at e
      split at e
      · exact absurd ⟨_, _, rfl, rfl⟩ h
      · exact e
    exact ⟨_, ob_is, σ, st, φ, I, x, y, r, R, hx, hy, e', q⟩
theorem ob_isnot2 : OpB X E (compareOp .IsNot) opIsNot2 := op_cases fun v w H Q ⟨σ, st, φ, I, x, y, r, R, hx, hy, e, q⟩ => by
  obtain ⟨r', e1, rfl⟩ := Option.map_eq_some_iff.mp e
  clear e
  by_cases h : ∃ a b, x = .bl a ∧ y = .bl b
  · obtain ⟨a, b, rfl, rfl⟩ := h
    cases e1
    exact ⟨_, op_isnot_bl, a, b, hx.bl, hy.bl, q⟩
  · have e' : opIs x y = some r' := by
      unfold opIs2 at e1
      split at e1
      · exact absurd ⟨_, _, rfl, rfl⟩ h
      · exact e1
    exact ⟨_, ob_isnot, σ, st, φ, I, x, y, _, R, hx, hy, by unfold opIsNot; rw [e']; rfl, q⟩
/-- x in a text, a list, a tuple -/
def opIn (x y : D) : Option Bool := match x, y with
  | .str a, .str z => if h : a.cps.size = 1 then some (decide (a.cps[0] ∈ z.cps.toList)) else none
  | x, y => x.py.bind fun p => y.py.bind fun q => if SeqAt.shaped p && SeqAt.shaped q then match q with
    | .list ds => some (ds.any fun z => PyData.eqv z p)
    | .tuple ds => some (ds.any fun z => PyData.eqv z p)
    | _ => none else none
def opNotIn (x y : D) : Option Bool := (opIn x y).map (!·)
def rInT (K : PySem.W.Frag) : R2 := fun x y H Q => ∃ d ds, Dp K H x d ∧ Dp K H y (.tuple ds) ∧ SeqAt.shaped d = true ∧ SeqAt.shaped (.tuple ds) = true ∧ Q (.bl (ds.any fun z => PyData.eqv z d)) H
def rNotInT (K : PySem.W.Frag) : R2 := fun x y H Q => ∃ d ds, Dp K H x d ∧ Dp K H y (.tuple ds) ∧ SeqAt.shaped d = true ∧ SeqAt.shaped (.tuple ds) = true ∧ Q (.bl (!ds.any fun z => PyData.eqv z d)) H
theorem op_inT (hu : X.A.units + 65 < cLine) : OpR X (compareOp .In) (rInT X.K) := by
  intro pins s σ H x y v u Q I rx ry h
  obtain ⟨d, ds, hd, he, sd, se, q⟩ := h
  obtain ⟨as, r1⟩ := Dp.reads I d x v hd rx
  obtain ⟨bs, r2⟩ := Dp.reads I (.tuple ds) y u he ry
  exact SeqAt.in_tuple_reads r2 r1 (SeqAt.canLay_of_shaped se) (SeqAt.canLay_of_shaped sd) (PyProof.Rows.room_in_shaped sd hu) ⟨.bl _, H, I, rfl, q⟩
theorem op_notInT (hu : X.A.units + 65 < cLine) : OpR X (compareOp .NotIn) (rNotInT X.K) := by
  intro pins s σ H x y v u Q I rx ry h
  obtain ⟨d, ds, hd, he, sd, se, q⟩ := h
  obtain ⟨as, r1⟩ := Dp.reads I d x v hd rx
  obtain ⟨bs, r2⟩ := Dp.reads I (.tuple ds) y u he ry
  exact SeqAt.notIn_tuple_reads r2 r1 (SeqAt.canLay_of_shaped se) (SeqAt.canLay_of_shaped sd) (PyProof.Rows.room_in_shaped sd hu) ⟨.bl _, H, I, rfl, q⟩
theorem str1 {a : Str} (h : a.cps.size = 1) : a = ⟨#[a.cps[0]]⟩ := by
  obtain ⟨⟨l⟩⟩ := a
  match l, h with
  | [x], _ => rfl
theorem opIn_data {x y : D} {r : Bool} (h : ¬ ∃ a z, x = .str a ∧ y = .str z) (e : opIn x y = some r) : ∃ p q, x.py = some p ∧ y.py = some q ∧ SeqAt.shaped p = true ∧ SeqAt.shaped q = true ∧ ((∃ ds, q = .list ds ∧ r = ds.any fun z => PyData.eqv z p) ∨ ∃ ds, q = .tuple ds ∧ r = ds.any fun z => PyData.eqv z p) := by
  unfold opIn at e
  split at e
  · exact absurd ⟨_, _, rfl, rfl⟩ h
  · obtain ⟨p, e1, e⟩ := Option.bind_eq_some_iff.mp e
    obtain ⟨q, e2, e⟩ := Option.bind_eq_some_iff.mp e
    by_cases hs : (SeqAt.shaped p && SeqAt.shaped q) = true
    · rw [if_pos hs] at e
      have hs := Bool.and_eq_true_iff.mp hs
      refine ⟨p, q, e1, e2, hs.1, hs.2, ?_⟩
      cases q <;> simp only [Option.some.injEq, reduceCtorEq] at e
      · exact .inl ⟨_, rfl, e.symm⟩
      · exact .inr ⟨_, rfl, e.symm⟩
    · rw [if_neg hs] at e
      cases e
theorem ob_in (hu : X.A.units + 65 < cLine) : OpB X E (compareOp .In) opIn := op_cases fun v w H Q ⟨σ, st, φ, I, x, y, r, R, hx, hy, e, q⟩ => by
  by_cases h : ∃ a z, x = .str a ∧ y = .str z
  · obtain ⟨a, z, rfl, rfl⟩ := h
    simp only [opIn] at e
    by_cases hs : a.cps.size = 1
    · rw [dif_pos hs] at e
      cases e
      refine ⟨_, op_in_sign, a.cps[0], z, ?_, hy.str, q⟩
      rw [hx.str]
      exact congrArg V.str (str1 hs)
    · rw [dif_neg hs] at e
      cases e
  · obtain ⟨p, q', e1, e2, s1, s2, ⟨ds, rfl, rfl⟩ | ⟨ds, rfl, rfl⟩⟩ := opIn_data h e
    · exact ⟨_, op_inD hu, p, ds, hx.dp R.ext e1, hy.dp R.ext e2, s1, s2, q⟩
    · exact ⟨_, op_inT hu, p, ds, hx.dp R.ext e1, hy.dp R.ext e2, s1, s2, q⟩

/-! ### isinstance of a built-in class, or a pair of them -/
def opKind : D → Option String
  | .non => some "NoneType"
  | .bl _ => some "bool"
  | .int _ => some "int"
  | .str _ => some "str"
  | .tup _ => some "tuple"
  | .tpF _ => some "tuple"
  | .lst _ => some "list"
  | .lsF _ => some "list"
  | .dct _ => some "dict"
  | _ => none
theorem opKind_ty {K : PySem.W.Frag} {φ : List Addr} {I H : Hp} {d : D} {v : V} {T : String} (hx : Ex I H) (h : Seen K φ I H d v) (e : opKind d = some T) : TyX K H v (.type T) := by
  cases d <;> simp only [opKind, Option.some.injEq, reduceCtorEq] at e <;> subst e
  · rw [h.non]; exact .base .non
  · rw [h.bl]; exact .base (.bl _)
  · rw [h.int]; exact .base (.int _)
  · rw [h.str]; exact .base (.str _)
  · obtain ⟨a, vs, rfl, h1, _⟩ := h.tup hx; exact .base (.tup h1)
  · obtain ⟨a, vs, rfl, h1, _⟩ := h.lst hx; exact .base (.lst h1)
  · obtain ⟨a, vs, rfl, h1, _⟩ := h.lsF hx
    rcases h1 with (h1 | ⟨o, h1⟩) | ⟨o, its, n, h1, h2, _⟩
    · exact .base (.lst h1)
    · exact .base (.frz h1)
    · exact .kList h1 h2
  · obtain ⟨a, vs, rfl, h1, _⟩ := h.tpF hx
    rcases h1 with (h1 | ⟨o, h1⟩) | ⟨o, its, n, h1, h2, _⟩
    · exact .base (.tup h1)
    · exact .fTuple h1
    · exact .kTuple h1 h2
  · obtain ⟨a, vs, rfl, h1, _⟩ := h.dct hx
    rcases h1 with h1 | ⟨o, h1⟩
    · exact .base (.dK h1)
    · exact .fDict h1
variable {p : Pos} {x : Str}
theorem sr_ty {T : String} (hg : Gl X x) (hm : X.mg x = none) (hv : bootBuiltins x = some (.type T)) (hn : x ≠ "__name__" := by decide) (hdb : (x == ("__debug__" : Str)) = false := by decide) : SR X E W (.Name x pos) (mL (.val (.ty T))) :=
  sr_lit (pe_bltn (v := .ty T) hg hm hv rfl hn hdb) fun _ _ => .val _
/-- kitB's answers where the classes are known -/
def kitQ (a b : String) : Option Bool := kitB a b
def opIsi (x y : D) : Option RV := match y with
  | .val (.ty T) => (opKind x).bind fun k => (kitB k T).map fun b => .sh (.bl b)
  | _ => none
theorem cl_isi : CallR X (.builtin "isinstance") (rdC2 X.K E opIsi) := call_cases fun vs H Q ⟨v, w, e0, σ, st, φ, I, x, y, r, R, hx, hy, e, q⟩ => by
  subst e0
  unfold opIsi at e
  split at e
  · rename_i T
    obtain ⟨k, e1, e⟩ := Option.bind_eq_some_iff.mp e
    obtain ⟨b, e2, rfl⟩ := Option.map_eq_some_iff.mp e
    have hw : w = .ty T := by
      rcases hy with hy | ⟨a, c, _, e, _⟩
      · cases hy; rfl
      · cases c <;> cases e
    subst hw
    exact ⟨_, call_isi, v, .ty T, _, _, b, rfl, .ty T, opKind_ty R.ext hx e1, kit_ty e2, q.sh R (.bl b)⟩
  · cases e

/-! ### all, any of a list of bools -/
def asBs : List D → Option (List Bool)
  | [] => some []
  | .bl b :: r => (asBs r).map (b :: ·)
  | _ => none
theorem asBs_rv {K : PySem.W.Frag} {φ : List Addr} {I : Hp} : ∀ {ds : List D} {vs : List V} {bs : List Bool}, Rvs K φ I ds vs → asBs ds = some bs → vs = bs.map V.bl
  | [], _, _, .nil, e => by cases e; rfl
  | d :: ds, _, _, .cons h1 h2, e => by
    cases d <;> try (cases e; done)
    obtain ⟨r, e1, rfl⟩ := Option.map_eq_some_iff.mp e
    cases h1
    rw [asBs_rv h2 e1]
    rfl
def opAll (d : D) : Option RV := (asL d).bind fun ds => (asBs ds).map fun bs => .sh (.bl (bs.all id))
def opAny (d : D) : Option RV := (asL d).bind fun ds => (asBs ds).map fun bs => .sh (.bl (bs.any id))
theorem cl_all (hc : X.calm = true) : CallR X (.builtin "all") (rdC1 X.K E opAll) := call_cases fun vs H Q ⟨v, e0, σ, st, φ, I, x, r, R, hx, e, q⟩ => by
  subst e0
  obtain ⟨ds, e1, e⟩ := Option.bind_eq_some_iff.mp e
  obtain ⟨bs, e2, rfl⟩ := Option.map_eq_some_iff.mp e
  obtain ⟨a, us, rfl, h1, h2⟩ := hx.asL R.ext e1
  have := asBs_rv h2 e2
  subst this
  exact ⟨_, cr_all hc, a, bs, rfl, h1, q.sh R (.bl _)⟩
theorem cl_any (hc : X.calm = true) : CallR X (.builtin "any") (rdC1 X.K E opAny) := call_cases fun vs H Q ⟨v, e0, σ, st, φ, I, x, r, R, hx, e, q⟩ => by
  subst e0
  obtain ⟨ds, e1, e⟩ := Option.bind_eq_some_iff.mp e
  obtain ⟨bs, e2, rfl⟩ := Option.map_eq_some_iff.mp e
  obtain ⟨a, us, rfl, h1, h2⟩ := hx.asL R.ext e1
  have := asBs_rv h2 e2
  subst this
  exact ⟨_, cr_any hc, a, bs, rfl, h1, q.sh R (.bl _)⟩

/-! ### l.count(x) -/
def opCnt (x y : D) : Option RV := x.py.bind fun p => y.py.bind fun q => if SeqAt.shaped p && SeqAt.shaped q then match p with
  | .list ds => some (.sh (.int ((ds.countP fun z => PyData.eqv z q : Nat) : Int)))
  | _ => none else none
def rCntD (K : PySem.W.Frag) : V → List V → Hp → VK → Prop := fun x xs H Q => ∃ (y : V) (d : PyData) (ds : List PyData), xs = [y] ∧ Dp K H x (.list ds) ∧ Dp K H y d ∧ SeqAt.shaped (.list ds) = true ∧ SeqAt.shaped d = true ∧ Q (.int ((ds.countP fun z => PyData.eqv z d : Nat) : Int)) H
theorem mt_countD (hu : X.A.units + 65 < cLine) : MtR X "list.count" (rCntD X.K) := by
  intro pins s σ H x xs v us Q I rx rxs h
  obtain ⟨y, d, ds, rfl, he, hd, se, sd, q⟩ := h
  obtain ⟨u, rfl, ru⟩ := rxs.one
  obtain ⟨as, r1⟩ := Dp.reads I d y u hd ru
  obtain ⟨bs, r2⟩ := Dp.reads I (.list ds) x v he rx
  have hxs := SeqAt.canLay_of_shaped se
  have hd' := SeqAt.canLay_of_shaped sd
  have hro := PyProof.Rows.room_in_shaped (A := X.A) (xs := ds) sd hu
  cases r2 with
  | @list a o vs n _ as' h1 h2 h3 h4 =>
    obtain ⟨cls, dd, data, sl⟩ := o
    simp only at h2 h3
    subst h2 h3
    refine call_meets PySem.F.slot_list_count ⟨_, h1, rfl⟩ PySem.F.entry_list_count (PySem.F.args_list_count_2 _ _)
      (SeqAt.list_countAt a vs n dd sl u fun y => PyData.eqv (SeqAt.readOf s.heap y) d) ⟨h1, SeqAt.items_eqAt h4 r1 hxs hd' hro, ?_⟩
    have ec : vs.toList.countP (fun y => PyData.eqv (SeqAt.readOf s.heap y) d) = ds.countP fun z => PyData.eqv z d := by
      rw [← SeqAt.readsAll_map ds _ _ hxs h4, List.countP_map]
      rfl
    refine ⟨.int (ds.countP (fun z => PyData.eqv z d) : Nat), H, I.tok _, ⟨s.toks, ?_⟩, q⟩
    show Value.int ((vs.toList.countP _ : Nat) : Int) s.toks = _
    rw [ec]
theorem mt_cnt (hu : X.A.units + 65 < cLine) : MtR X "list.count" (rdM1 X.K E opCnt) := mt1_cases fun v us H Q ⟨w, e0, σ, st, φ, I, x, y, r, R, hx, hy, e, q⟩ => by
  subst e0
  obtain ⟨p, e1, e⟩ := Option.bind_eq_some_iff.mp e
  obtain ⟨z, e2, e⟩ := Option.bind_eq_some_iff.mp e
  by_cases hs : (SeqAt.shaped p && SeqAt.shaped z) = true
  · rw [if_pos hs] at e
    have hs := Bool.and_eq_true_iff.mp hs
    cases p <;> try (cases e; done)
    cases e
    exact ⟨_, mt_countD hu, w, z, _, rfl, hx.dp R.ext e1, hy.dp R.ext e2, hs.1, hs.2, q.sh R (.int _)⟩
  · rw [if_neg hs] at e
    cases e
/-- o.m(x), o a list that stays as it is -/
def isLst : D → Option Unit
  | .lst _ => some ()
  | _ => none
def mL1 (g : D → D → Option RV) (a b : M RV) : M RV := a.bor.bind fun r => (at1 isLst r).bind fun _ => b.bor.bind fun s => at2 g r s

/-! ### f'..' -/
def opFmt : D → Option RV
  | .str z => if z.length ≤ lim then some (.sh (.str z)) else none
  | .int i => if i.natAbs.log2 < 1920 then some (.sh (.str (toString i))) else none
  | _ => none
def mFm (a : M RV) : M RV := a.bor.bind fun r => at1 opFmt r
theorem sr_fm (h : SR X E W a ma) : SR X E W (.FormattedValue a (-1) none pos) (mFm ma) := PEi (pe_fmt (sr_bor h)) fun σ H Q ⟨st, φ, I, R, p⟩ => by
  refine ⟨st, φ, I, R, (Po.bind p).imp fun r H1 st1 φ1 I1 S1 R1 p1 v hv _ => ?_⟩
  obtain ⟨x, r', ex, e1, p2⟩ := Po.at1 p1
  have hs := hv.seen Stp.refl R1 ex
  cases x <;> try (cases e1; done)
  · rename_i i
    simp only [opFmt] at e1
    by_cases hz : i.natAbs.log2 < 1920
    · rw [if_pos hz] at e1
      cases e1
      exact .inr ⟨i, hs.int, hz, p2 H1 φ1 I1 Stp.refl R1 _ (.str _) Nw.sh⟩
    · rw [if_neg hz] at e1
      cases e1
  · rename_i z
    simp only [opFmt] at e1
    by_cases hz : z.length ≤ lim
    · rw [if_pos hz] at e1
      cases e1
      exact .inl ⟨z, hs.str, Nat.le_trans hz lim_le, p2 H1 φ1 I1 Stp.refl R1 _ (.str _) Nw.sh⟩
    · rw [if_neg hz] at e1
      cases e1
inductive SJ (X : Cx) (E : Ent) (W : WX) : List Expr → List (M RV) → Prop where
  | nil : SJ X E W [] []
  | cons {e : Expr} {m : M RV} {es : List Expr} {ms : List (M RV)} (h : SR X E W e m) (r : SJ X E W es ms) : SJ X E W (e :: es) (m :: ms)
def mJs : List (M RV) → Str → M Str
  | [], acc => M.pure acc
  | m :: ms, acc => m.bind fun r => match r with
    | .sh (.str z) => if (acc ++ z).length ≤ lim then mJs ms (acc ++ z) else M.stuck
    | _ => M.stuck
def mJoin (ms : List (M RV)) : M RV := (mJs ms Str.empty).bind fun z => M.pure (.sh (.str z))
theorem SJ.pj {es : List Expr} {ms : List (M RV)} (h : SJ X E W es ms) : PJ X es (ms.map fun m => rdR X.K E W m) := by
  induction h with
  | nil => exact .nil
  | cons h r ih => exact .cons h ih
theorem rd_js {K : PySem.W.Frag} : ∀ {ms : List (M RV)} {acc : Str} {σ : L2.St} {H : Hp} {st : State} {φ : List Addr} {I : Hp} {k : Str → Hp → State → List Addr → Hp → Prop} {Q : Str → Hp → Prop}, Rp K E σ H st φ I → Po K E W σ (mJs ms acc st) H st φ I k →
    (∀ z H' st' φ' I', Stp σ H st φ I H' st' φ' I' → Rp K E σ H' st' φ' I' → k z H' st' φ' I' → Q z H') → tJs (ms.map fun m => rdR K E W m) acc σ H Q
  | [], acc, σ, H, st, φ, I, k, Q, R, p, h => h acc H st φ I Stp.refl R (p.pure R)
  | m :: ms, acc, σ, H, st, φ, I, k, Q, R, p, h => by
    refine ⟨st, φ, I, R, (Po.bind p).imp fun r H1 st1 φ1 I1 S1 R1 p1 v hv hn => ?_⟩
    clear hn
    cases r with
    | lo i => exact p1.elim
    | ow c => exact p1.elim
    | sh d =>
      cases d <;> try exact p1.elim
      rename_i z
      simp only at p1
      by_cases hz : (acc ++ z).length ≤ lim
      · rw [if_pos hz] at p1
        have hv' : Rv K φ1 I1 (.str z) v := hv
        cases hv'
        exact ⟨z, rfl, Nat.le_trans hz lim_le, rd_js R1 p1 fun y H2 st2 φ2 I2 S2 R2 q => h y H2 st2 φ2 I2 (S1.trans S2) R2 q⟩
      · rw [if_neg hz] at p1
        exact p1.elim
theorem sr_join {v1 v2 : Expr} {rest : List Expr} {ms : List (M RV)} (h : SJ X E W (v1 :: v2 :: rest) ms) : SR X E W (.JoinedStr (v1 :: v2 :: rest) pos) (mJoin ms) := PEi (pe_joined h.pj) fun σ H Q ⟨st, φ, I, R, p⟩ =>
  rd_js R (Po.bind p) fun z H1 st1 φ1 I1 S1 R1 p1 => p1.pure R1 _ (.str z) Nw.sh
theorem sr_join1 (h : SR X E W a ma) : SR X E W (.JoinedStr [a] pos) ma := pe_joined1 h

/-! ### range(i, j, c) -/
def rngC (lo c : Int) (n : Nat) : List D := (List.range n).map fun (k : Nat) => D.int (lo + (k : Int) * c)
def mRg3 (a b c : M RV) : M (List D) := a.bind fun r => b.bind fun s => c.bind fun t => match asI r, asI s, asI t with
  | some i, some j, some k => if k ≠ 0 ∧ k.natAbs < 1073741824 ∧ Builtin.Range.small i j k = true ∧ 0 ≤ Builtin.Range.rangeSize i j k then M.pure (rngC i k (Builtin.Range.rangeSize i j k).toNat) else M.stuck
  | _, _, _ => M.stuck
theorem walk_c {K : PySem.W.Frag} {φ : List Addr} {I : Hp} (lo c : Int) (n : Nat) : Walk K E (Itc lo c n) (rngC lo c n) φ I := fun σ H st φ' I' R g i => by
  have hl : (rngC lo c n).length = n := by unfold rngC; simp
  refine ⟨fun d e => ?_, fun hi => by rw [hl] at hi; exact hi⟩
  have hi : i < n := by rw [← hl]; exact (List.getElem?_eq_some_iff.mp e).1
  have e2 : d = .int (lo + (i : Int) * c) := by
    unfold rngC at e
    rw [List.getElem?_map, List.getElem?_range hi] at e
    exact (Option.some.inj e).symm
  subst e2
  refine ⟨hi, fun x H' ⟨e3, e4⟩ => ?_⟩
  subst e3
  subst e4
  exact ⟨I', R, Stp.refl, .int _⟩
variable {c tg : Expr} {mc : M RV}
theorem si_rg3 (hg : Gl X "range") (hm : X.mg "range" = none) (ha : SR X E W a ma) (hb : SR X E W b mb) (hc : SR X E W c mc) (hs : starEach [a, b, c] X.env = (false, eval a X.env) :: starEach [b, c] X.env := by rfl) (hs2 : starEach [b, c] X.env = (false, eval b X.env) :: starEach [c] X.env := by rfl) (hs3 : starEach [c] X.env = (false, eval c X.env) :: starEach [] X.env := by rfl)
    (hpl : (backTo pos (starEach [b, c] X.env)).any (·.1) = false := by rfl) : SI X E W tg (.Call (.Name "range" p) [a, b, c] [] pos) (mRg3 ma mb mc) := PIi (pi_range3 hg hm (pa_cons ha (pa_cons hb (pa_cons hc pa_nil hs3) hs2) hs) hs hpl) fun σ H R ⟨st, φ, I, Rr, p⟩ => by
  refine ⟨st, φ, I, Rr, (Po.bind p).imp fun r H1 st1 φ1 I1 S1 R1 p1 v hv _ => ?_⟩
  refine ⟨st1, φ1, I1, R1, (Po.bind p1).imp fun r2 H2 st2 φ2 I2 S2 R2 p2 w hw _ => ?_⟩
  refine ⟨st2, φ2, I2, R2, (Po.bind p2).imp fun r3 H3 st3 φ3 I3 S3 R3 p3 u hu _ => ?_⟩
  cases e : asI r with
  | none => rw [e] at p3; exact p3.elim
  | some i =>
    cases e2 : asI r2 with
    | none => rw [e, e2] at p3; exact p3.elim
    | some j =>
      cases e3 : asI r3 with
      | none => rw [e, e2, e3] at p3; exact p3.elim
      | some k =>
        rw [e, e2, e3] at p3
        simp only at p3
        by_cases h : k ≠ 0 ∧ k.natAbs < 1073741824 ∧ Builtin.Range.small i j k = true ∧ 0 ≤ Builtin.Range.rangeSize i j k
        · rw [if_pos h] at p3
          exact ⟨i, j, k, (Builtin.Range.rangeSize i j k).toNat, by rw [asI_r hv e, asI_r hw e2, asI_r hu e3], ⟨h.1, h.2.1, h.2.2.1, by omega⟩, p3.pure R3 _ (walk_c i k _)⟩
        · rw [if_neg h] at p3
          exact p3.elim

/-! ### o.m(x) of a list -/
variable {o : Expr} {mo : M RV} {name : Str} {id : String} {apos : Pos} {g2 : D → D → Option RV}
theorem sr_l1 (hm : MtR X id (rdM1 X.K E g2)) (slot : PySem.Slot "list" name id) (hty : typeOf (.builtin id) = Pure.pure (.type "method_descriptor")) (ho : SR X E W o mo) (ha : SR X E W a ma)
    (hbase : attributeBase o name X.env (eval o X.env) = eval o X.env := by rfl)
    (hfew : ((backTo pos (starEach [a] X.env)).all (fun x => !x.1) && (backToKw pos (keywordEach [] X.env)).all (fun x => x.1.isSome)
      && decide ([a].length + ([] : List Keyword).length + (if ([] : List Keyword).isEmpty then 0 else 1) < 30)) = true := by rfl)
    (hline : (apos.endLine == pos.line) = true := by rfl) (hs : starEach [a] X.env = (false, eval a X.env) :: starEach [] X.env := by rfl) (hplain : (backTo pos (starEach [] X.env)).any (·.1) = false := by rfl) :
    SR X E W (.Call (.Attribute o name apos) [a] [] pos) (mL1 g2 mo ma) := PEi (pe_bm PySem.F.plainAttrs_list slot hty hm (sr_bor ho) (pa_cons (sr_bor ha) pa_nil hs) hbase hfew hline hs hplain) fun σ H Q ⟨st, φ, I, R, p⟩ => by
  refine ⟨st, φ, I, R, (Po.bind p).imp fun r H1 st1 φ1 I1 S1 R1 p1 v hv _ => ?_⟩
  obtain ⟨x, _, ex, e1, p2⟩ := Po.at1 (Po.bind p1)
  cases x <;> try (cases e1; done)
  obtain ⟨a1, vs, rfl, g1, g3⟩ := (hv.seen Stp.refl R1 ex).lst R1.ext
  refine ⟨.inl ⟨rfl, vs, .inl (.inl g1)⟩, st1, φ1, I1, R1, (Po.bind (p2 H1 φ1 I1 Stp.refl R1)).imp fun s H2 st2 φ2 I2 S2 R2 p3 w hw _ => ?_⟩
  obtain ⟨x', y', rr, ex', ey, e, p4⟩ := Po.at2 p3
  exact ⟨w, rfl, σ, st2, φ2, I2, x', y', rr, R2, hv.seen S2 R2 ex', hw.seen Stp.refl R2 ey, e, fun u H' I' S' R' hr hn => p4 H' φ2 I' S' R' u hr (Nw.far (S1.trans S2).there hn)⟩
end
end PM

set_option Elab.async false
set_option linter.all false
set_option maxRecDepth 100000
set_option maxHeartbeats 1200000
namespace PM
open PySem PySem.Spec L2

/-- what a body's rule must give -/
abbrev Bod (P : Program) (w : World) (K : PySem.W.Frag) (mg : Str → Option Value) (base : Heap) (k : Nat) (f : Addr) (qual : Str) (scope : Scope) (N : List Str) (cdv : Value) (body : List Stmt) (ms : MS) : Prop :=
  ∀ (A : Around) (outer : List Env) (s : Shared) (H : Hp) (Ee : Ent) (E : XK), Room k (A.deeper (PyProof.Rows.envOfC qual scope s.heap.objs.size f cdv)) → (A.deeper (PyProof.Rows.envOfC qual scope s.heap.objs.size f cdv)).guards = some [] →
      Takes (cxOf (L2.CX P w) P w K mg base N qual scope f cdv A outer s H E) (fun cls d _ H => E cls d H) → SSs (cxOf (L2.CX P w) P w K mg base N qual scope f cdv A outer s H E) Ee (fun cls d _ H => E cls d H) body ms
section
variable {P : Program} {w : World} {K : PySem.W.Frag} {mg : Str → Option Value} {base : Heap} {k : Nat} {f : Addr} {m : Nat} {ks : List Str} {name qual : Str} {params : Arguments} {body : List Stmt} {scope : Scope} {N ps : List Str} {ms : MS} {kws : List (Str × V)} {fd : FuncData}
/-- a def without defaults, called with m places and the keywords ks -/
theorem fn_d (F : FunD K name qual params body scope [] kws f fd) (S : FnScope N ps scope) (pick : ∀ {α : Type}, List α → List α) (hpick : ∀ {α β : Type} (R : α → β → Prop) (xs : List α) (ys : List β), Paired R xs ys → Paired R (pick xs) (pick ys)) (hlen : ∀ {α : Type} (xs : List α), xs.length = m + ks.length → (pick xs).length = ps.length)
    (hb : ∀ (kV doc pm : Value) (an : Option Addr) (cdv ct : Value) (us : List Value), us.length = m + ks.length → bindArgs (PySem.W.fnOf name qual params body scope .none kV doc pm an cdv ct) ⟨us.take m, ks.zip (us.drop m)⟩ = pure (ps.zip (pick us)))
    (hbody : ∀ cdv, Bod P w K mg base k f qual scope N cdv body ms) : FnC P w K mg base (k + 1) f m ks (fun ds store => runF ms (N.length - ps.length) (pick ds) store) := by
  obtain ⟨oc, od, dV, kV, doc, pm, an, cdv, ct, osl, rfl, lk, hcd, hD, _⟩ := F.ex
  rcases hD with ⟨_, rfl⟩ | ⟨e, _⟩
  · exact fn_c (ds0 := []) (dd0 := []) (dv0 := []) pick hpick lk hcd S (fun s us _ hl => .of_eq (hb kV doc pm an cdv ct us hl)) hlen (hbody cdv)
  · exact absurd rfl e
/-- .. all by position -/
theorem fn_p (F : FunD K name qual params body scope [] kws f fd) (S : FnScope N ps scope) (hm : m = ps.length := by rfl)
    (hb : ∀ (kV doc pm : Value) (an : Option Addr) (cdv ct : Value) (us : List Value), us.length = ps.length → bindArgs (PySem.W.fnOf name qual params body scope .none kV doc pm an cdv ct) ⟨us, []⟩ = pure (ps.zip us))
    (hbody : ∀ cdv, Bod P w K mg base k f qual scope N cdv body ms) : FnC P w K mg base (k + 1) f m [] (runF ms (N.length - ps.length)) := by
  subst hm
  refine fn_d (ks := []) F S (fun xs => xs) (fun _ _ _ h => h) (fun xs h => h) (fun kV doc pm an cdv ct us hl => ?_) hbody
  have e : us.take ps.length = us := List.take_of_length_le (by rw [hl]; exact Nat.le_refl _)
  rw [e]
  exact hb kV doc pm an cdv ct us hl
end

/-! ### def f(a, *b) -/
section
variable {K : PySem.W.Frag} {H H' : Hp} {φ φ' : List Addr} {I I' : Hp} {p : Addr} {o : HO} {store store' : List Cell}
theorem Rq.lay (q : Rq K H store φ I) (hp : H p = none) (o : HO) : Rq K (upd H p o) store φ (upd I p o) ∧ I p = none := by
  have hI : I p = none := by
    cases e : I p with
    | none => rfl
    | some u => rw [q.ext _ _ e] at hp; cases hp
  have eH : Ex H (upd H p o) := ex_upd hp
  refine ⟨⟨ex_upd2 q.ext, q.nd, q.len, fun i c a h1 h2 => ?_, fun a h => ?_⟩, hI⟩
  · rcases q.cells i c a h1 h2 with z | ⟨u, z1, z2, z3⟩
    · exact .inl z
    · exact .inr ⟨u, eH _ _ z1, by rw [upd_ne (show a ≠ p from fun e => by rw [e, hp] at z1; cases z1)]; exact z2, z3.mono List.prefix_rfl (ex_upd hI)⟩
  · cases e : H a with
    | none => exact absurd e (q.pin a h)
    | some u => rw [eH _ _ e]; simp
theorem Rp.lower (hp : H p = none) (hI : I p = none) (B : Rp K ⟨upd H p o, φ, upd I p o⟩ [] H' (st0 store') φ' I') : Rp K ⟨H, φ, I⟩ [] H' (st0 store') φ' I' := by
  have eH : Ex H (upd H p o) := ex_upd hp
  have back : ∀ a, (upd H p o) a = none → H a = none := fun a z => by
    cases e : H a with
    | none => rfl
    | some u => rw [eH _ _ e] at z; cases z
  refine ⟨B.ext, fun a u e n => B.keep a u (eH _ _ e) n, fun a h => B.there a (fun z => h (back a z)), fun a h n => ?_, (ex_upd hI).trans B.iold, B.pre, fun a h => (B.pnew a h).imp id (back a), B.nd, B.len, B.cells, B.pin, B.elen, B.sh, fun i c h => by simp [st0] at h, B.one⟩
  by_cases e : a = p
  · subst e; exact .inl hp
  · exact (B.inew a h (by show upd I p o a = none; rw [upd_ne e]; exact n)).imp (back a) id
end
section
variable {P : Program} {w : World} {K : PySem.W.Frag} {mg : Str → Option Value} {base : Heap} {k : Nat} {f : Addr} {m : Nat} {name qual : Str} {params : Arguments} {body : List Stmt} {scope : Scope} {N ps : List Str} {pv : Str} {ms : MS} {kws : List (Str × V)} {fd : FuncData}
theorem fn_s (F : FunD K name qual params body scope [] kws f fd) (S : FnScope N (ps ++ [pv]) scope) (hm : ps.length ≤ m) (hm2 : m ≤ lim)
    (hb : ∀ (kV doc pm : Value) (an : Option Addr) (cdv ct : Value) (us rest : List Value), us.length = ps.length → bindArgs (PySem.W.fnOf name qual params body scope .none kV doc pm an cdv ct) ⟨us ++ rest, []⟩ = (newTuple rest >>= fun t => pure (ps.zip us ++ [(pv, t)])))
    (hbody : ∀ cdv, Bod P w K mg base k f qual scope N cdv body ms) : FnC P w K mg base (k + 1) f m [] (fun ds store => runF ms (N.length - (ps ++ [pv]).length) (ds.take ps.length ++ [.tup (ds.drop ps.length)]) store) := by
  obtain ⟨oc, od, dV, kV, doc, pm, an, cdv, ct, osl, rfl, lk, hcd, hD, _⟩ := F.ex
  rcases hD with ⟨_, rfl⟩ | ⟨e, _⟩
  · intro A outer s H us vs Q E hr hgd e0 hv hl ⟨ds, store, φ, I, hq, hvs, hf⟩
    have hl : us.length = m := hl
    have hlv : vs.length = m := by rw [hv.length]; exact hl
    have hld : ds.length = m := by rw [hvs.len]; exact hlv
    have hn : H s.heap.objs.size = none := e0.hok.fresh (Nat.le_refl _)
    have ev : vs.take ps.length ++ vs.drop ps.length = vs := List.take_append_drop ..
    rw [← ev] at hv
    obtain ⟨u1, u2, eu, r1, r2⟩ := StX.vals_split hv
    subst eu
    have hl1 : u1.length = ps.length := by rw [← r1.length, List.length_take, hlv]; omega
    have hl2 : u2.length ≤ sizeLine := by rw [← r2.length, List.length_drop, hlv]; exact Nat.le_trans (Nat.le_trans (Nat.sub_le _ _) hm2) lim_le
    have ea : (⟨(u1 ++ u2).take m, ([] : List Str).zip ((u1 ++ u2).drop m)⟩ : Args) = ⟨u1 ++ u2, []⟩ := by
      rw [List.take_of_length_le (by rw [hl]; exact Nat.le_refl _)]
      rfl
    rw [ea]
    refine StX.run_bnd (ps := ps ++ [pv]) (G := fun xs H2 => ∃ p, H p = none ∧ xs = vs.take ps.length ++ [V.ref p] ∧ H2 = upd H p (.tup (vs.drop ps.length))) lk hcd S hr e0 (fun A' Ex Q' h' => ?_) fun s2 H2 xs ⟨p, hp, ex, eH⟩ hr' => ?_
    · rw [hb kV doc pm an cdv ct u1 u2 hl1]
      refine wpAny_bind (wpAny_newTuple (wpAny_pure ?_) hl2)
      have hz : (vs.drop ps.length).length ≤ sizeLine := by rw [r2.length]; exact hl2
      have new : ObjOk P w (upd H s.heap.objs.size (.tup (vs.drop ps.length))) (s.heap.push ({ cls := .type "tuple", data := .seq u2.toArray } : Obj)) s.heap.objs.size (.tup (vs.drop ps.length)) := ⟨hz, u2, r2, ⟨_, Heap.get?_push_size _ rfl, rfl, _, rfl⟩⟩
      have un := StX.un_laid (fs := frs outer) (s := s) (o := ({ cls := .type "tuple", data := .seq u2.toArray } : Obj)) (u := .tup (vs.drop ps.length)) hn
      have z := h' _ _ (vs.take ps.length ++ [V.ref s.heap.objs.size]) (u1 ++ [Value.ref s.heap.objs.size]) (StX.env0_laid e0 new) un rfl (fun e s' c => ?_) (r1.append (.cons rfl .nil))
        (by rw [List.length_append, List.length_append, List.length_take, hlv, Nat.min_eq_left hm]; rfl) ⟨_, hn, rfl, rfl⟩
      · rw [List.zip_append hl1.symm] at z
        exact z
      · exact StX.cxUp outer s H { s with heap := s.heap.push { cls := .type "tuple", data := .seq u2.toArray } } _ E e s' un (fun b o q => Heap.get?_push_of_some _ q) rfl c
    · subst ex eH
      obtain ⟨q2, hI⟩ := hq.lay hp (.tup (vs.drop ps.length))
      refine ⟨_, hbody cdv A outer s2 _ ⟨upd H p (.tup (vs.drop ps.length)), φ, upd I p (.tup (vs.drop ps.length))⟩ E hr' (by rw [show (A.deeper _).guards = A.guards from rfl]; exact hgd) (takes_of rfl rfl rfl rfl), ?_⟩
      have hpl : (ps ++ [pv]).length ≤ N.length := by
        have := congrArg List.length S.pre
        rw [List.length_take] at this
        omega
      have hin : Rvs K φ (upd I p (.tup (vs.drop ps.length))) (ds.take ps.length ++ [.tup (ds.drop ps.length)]) (vs.take ps.length ++ [V.ref p]) :=
        ((hvs.take _).mono List.prefix_rfl (ex_upd hI)).append (.cons (.tup upd_same ((hvs.drop _).mono List.prefix_rfl (ex_upd hI))) .nil)
      have hdl : (ds.take ps.length ++ [D.tup (ds.drop ps.length)]).length = (ps ++ [pv]).length := by
        rw [List.length_append, List.length_append, List.length_take, hld, Nat.min_eq_left hm]; rfl
      refine rd_body (ms := ms) (Rq.enter q2 hin (by rw [hdl]; exact hpl)) ?_
      rw [hdl]
      have hf' : Fq K H φ I Q E (toF (ms ⟨entry (ds.take ps.length ++ [.tup (ds.drop ps.length)]) (N.length - (ps ++ [pv]).length), store⟩)) := hf
      cases e : toF (ms ⟨entry (ds.take ps.length ++ [.tup (ds.drop ps.length)]) (N.length - (ps ++ [pv]).length), store⟩) with
      | stuck => rw [e] at hf'; exact hf'.elim
      | exc c st' => rw [e] at hf'; exact fun d H' φ' I' R hx => hf' d H' φ' I' (R.lower hp hI) hx
      | ret r st' =>
        rw [e] at hf'
        intro v H' φ' I' R hr2
        refine hf' v H' φ' I' (R.lower hp hI) ?_
        cases r with
        | lo i => exact hr2
        | sh d => exact hr2
        | ow c =>
          obtain ⟨a, e1, h1, h2, h3, h4⟩ := hr2
          refine ⟨a, e1, h1, h2, ?_, h4⟩
          have h3 : upd H p (.tup (vs.drop ps.length)) a = none := h3
          show H a = none
          cases e2 : H a with
          | none => rfl
          | some u => rw [ex_upd hp _ _ e2] at h3; cases h3
  · exact absurd rfl e
end

/-! ### the end of a law -/
section
open PySem.W
theorem rvs_ints {K : Frag} {φ : List Addr} {I : Hp} : ∀ ns : List Int, Rvs K φ I (ns.map D.int) (ns.map V.int)
  | [] => .nil
  | n :: ns => .cons (.int n) (rvs_ints ns)
theorem law_endC {l : OpenLaw} {k : Nat} {q : Program} {loose : List Str} {XP : (Str → Option Value) → Heap → Prop} {YP : World → Heap → Prop} {d : DefRec} (hn : l.most = some 63) (hdf : d.params.defaults = []) (hr : Room k callerA)
    (G : ∀ (w : World) (mg : Str → Option Value) (fa : Addr) (h : Heap), YP w h → h.Ns mainGlobals mg → mg d.name = some (.ref fa) →
      ∃ (K : Frag) (F : Fn), K.In h ∧ (∀ base : Heap, K.In base → base.Ns mainGlobals mg → FnC l.prog w K mg base k fa 1 [] F) ∧ ∀ ns : List Int, ns.length ≤ 63 → (∀ z ∈ ns, Builtin.Int.intBits z ≤ 1048576) → ∃ st, F [.lsF (ns.map .int)] [] = .ret (.sh (.bl true)) st) :
    WalkO q loose XP YP l.row.toRowW d [] (fun f vs => PySem.call f vs) := by
  refine Att.attach_callB hn hdf fun w s₀ s₁ mg mb fa o pm cd doc a vs ns Gr Y ho hd hcd hmg hobj hints hlen hbits hgen => ?_
  obtain ⟨K, F, KX, hF, hend⟩ := G w mg fa _ Y Gr.T.g hmg
  obtain ⟨store', hret⟩ := hend ns hlen hbits
  have rv := vals_ints hints
  have hsz : (ns.map V.int).length ≤ sizeLine := by rw [List.length_map]; exact Nat.le_trans hlen (by decide)
  -- the heap in which the script alone is told of, if it is no object of the module
  obtain ⟨S, hS⟩ : ∃ S : Hp, S = fun b => if b = a ∧ K.lookup a = none then some (HO.frz { cls := .type "list", data := .seq vs.toArray } (.lst (ns.map V.int))) else none := ⟨_, rfl⟩
  have at_ : ∀ b u, S b = some u → b = a ∧ K.lookup a = none ∧ u = .frz { cls := .type "list", data := .seq vs.toArray } (.lst (ns.map V.int)) := fun b u e => by
    subst hS
    by_cases c : b = a ∧ K.lookup a = none
    · exact ⟨c.1, c.2, (Option.some.inj ((if_pos c).symm.trans e)).symm⟩
    · exact absurd ((if_neg c).symm.trans e) (fun z => nomatch z)
  have off : ∀ {b : Addr} {ob : Obj}, s₁.heap.get? b = some ob → (∀ z n, ob.data ≠ .seq z n) → S b = none := fun {b ob} e nd => by
    cases c : S b with
    | none => rfl
    | some u =>
      obtain ⟨rfl, _⟩ := at_ b u c
      rw [hobj] at e
      cases e
      exact absurd rfl (nd _ _)
  have stay : ∀ {b : Addr} {ob : Obj}, s₁.heap.get? b = some ob → S b = none → (hidT s₁.heap S).get? b = some ob := fun e n => hidT_get e n
  have names : ∀ {b : Addr} {t : Str → Option Value}, s₁.heap.Ns b t → (hidT s₁.heap S).Ns b t := fun {b t} ⟨ob, es, ep, e, dd, r⟩ => ⟨ob, es, ep, stay e (off e fun z n c => by rw [dd] at c; cases c), dd, r⟩
  have KB : K.In (hidT s₁.heap S) := fun b ob e => stay (KX b ob e) (by
    cases c : S b with
    | none => rfl
    | some u =>
      obtain ⟨rfl, c2, _⟩ := at_ b u c
      rw [c2] at e
      cases e)
  have modul : Mod K mg (hidT s₁.heap S) := by
    obtain ⟨mc, n1, n2⟩ := Gr.T.nolimit
    exact ⟨KB, names Gr.T.g, ⟨mb, names Gr.T.b, Gr.T.builtins⟩, mc, names n1, n2⟩
  have hok : HOk l.prog w S s₁.heap := fun b u c => by
    obtain ⟨rfl, _, rfl⟩ := at_ b u c
    exact ⟨hobj, hsz, vs, _, rv, hobj⟩
  have env : Env0 l.prog w K mg (hidT s₁.heap S) callerA [] s₁ S :=
    { frames := rfl, mod := modul, bs := fun b ob e => of_hidT e, bsz := Nat.le_of_eq (hidT_size _ _), funs := trivial, frf := fun b hb => absurd (show b ∈ ([] : List Addr) from hb) List.not_mem_nil, hok := hok, bare := .of_eq hgen }
  have seen : SqL K S a (ns.map V.int) := by
    cases c : K.lookup a with
    | none => exact .inl (.inr ⟨_, by rw [hS]; exact if_pos ⟨rfl, c⟩⟩)
    | some ob =>
      have e := KX a ob c
      rw [hobj] at e
      cases e
      exact .inr ⟨_, vs.toArray, _, c, rfl, rfl, rfl, by rw [List.size_toArray, ← rv.length]; exact hsz, by simpa using rv⟩
  have asks : spOf K F [.ref a] S (fun v _ => v = .bl true) fun _ _ _ => False :=
    ⟨[.lsF (ns.map .int)], [], [], S, ⟨Ex.refl _, List.nodup_nil, rfl, fun i c b e => by simp at e, fun b hb => absurd hb List.not_mem_nil⟩, .cons (.lsF seen (rvs_ints ns)) .nil, by
      rw [hret]
      exact fun v H' φ' I' _ hr => by cases (show Rv K φ' I' (.bl true) v from hr); rfl⟩
  refine codeAny_mono (hF _ KB (names Gr.T.g) callerA [] s₁ S [.ref a] [.ref a] _ _ hr rfl env (.cons rfl .nil) rfl asks) fun r s' out => ?_
  match r, out with
  | .error e, out =>
    obtain ⟨_, _, _, _, _, _, _, _, _, _, _, _, z⟩ := out
    exact z.elim
  | .ok (.ret u), ⟨v, H', os, bare, un, hok', rel, eq⟩ =>
    subst eq
    obtain rfl : u = Value.bool true := rel
    refine ⟨rfl, OldK.of_keep fun b ob e => ?_, os, bare⟩
    cases c : S b with
    | none => exact un.keep b ob e c (fun z => absurd (show b ∈ ([] : List Addr) from z) List.not_mem_nil) (by simp)
    | some u =>
      obtain ⟨rfl, _, rfl⟩ := at_ b u c
      obtain ⟨e2, _⟩ := hok' b _ (un.frzs b _ _ c)
      rw [hobj] at e
      cases e
      exact e2
end
end PM

set_option Elab.async false
set_option linter.all false
set_option maxRecDepth 100000
set_option maxHeartbeats 1200000
namespace PM
open PySem PySem.Spec L2
/-- the number at a slot -/
def natAt (st : State) (i : Nat) : Nat := match st.env[i]? with
  | some (.sh (.int z)) => z.natAbs
  | _ => 0
theorem FnC.stuck {P : Program} {w : World} {K : PySem.W.Frag} {mg : Str → Option Value} {base : Heap} {k : Nat} {f : Addr} {m : Nat} {ks : List Str} : FnC P w K mg base k f m ks (fun _ _ => .stuck) :=
  fun _ _ _ _ _ _ _ _ _ _ _ _ _ ⟨_, _, _, _, _, _, h⟩ => h.elim
theorem hq_of {A : Around} {k : Nat} (hr : Room k A) : A.units + 64 < cLine := by have := hr.un; omega
theorem hi_of {A : Around} {k : Nat} (hr : Room k A) : A.units + 65 < cLine := by have := hr.un; omega
section
variable {X : Cx} {E : Ent}
theorem ob_notin (hu : X.A.units + 65 < cLine) : OpB X E (compareOp .NotIn) opNotIn := op_cases fun v w H Q ⟨σ, st, φ, I, x, y, r, R, hx, hy, e, q⟩ => by
  obtain ⟨r', e0, rfl⟩ := Option.map_eq_some_iff.mp e
  by_cases h : ∃ a z, x = .str a ∧ y = .str z
  · obtain ⟨a, z, rfl, rfl⟩ := h
    simp only [opIn] at e0
    by_cases hs : a.cps.size = 1
    · rw [dif_pos hs] at e0
      cases e0
      refine ⟨_, op_notIn_sign, a.cps[0], z, ?_, hy.str, q⟩
      rw [hx.str]
      exact congrArg V.str (str1 hs)
    · rw [dif_neg hs] at e0
      cases e0
  · obtain ⟨p, q', e1, e2, s1, s2, ⟨ds, rfl, rfl⟩ | ⟨ds, rfl, rfl⟩⟩ := opIn_data h e0
    · exact ⟨_, op_notInD hu, p, ds, hx.dp R.ext e1, hy.dp R.ext e2, s1, s2, q⟩
    · exact ⟨_, op_notInT hu, p, ds, hx.dp R.ext e1, hy.dp R.ext e2, s1, s2, q⟩
end
end PM

set_option Elab.async false
set_option linter.all false
set_option maxRecDepth 100000
set_option maxHeartbeats 1200000
namespace PM
open PySem PySem.Spec L2

/-! ### how runs are reckoned: each step's rest stands under a name, so that it is not looked into before its turn -/
section
variable {α β : Type}
def Out.bd (o : Out α) (f : α → State → Out β) : Out β := match o with
  | .ok a st => f a st
  | .exc c st => .exc c st
  | .stuck => .stuck
@[simp] theorem bd_ok {a : α} {st : State} {f : α → State → Out β} : (Out.ok a st).bd f = f a st := rfl
@[simp] theorem bd_exc {c : Exc} {st : State} {f : α → State → Out β} : (Out.exc c st : Out α).bd f = .exc c st := rfl
@[simp] theorem bd_stuck {f : α → State → Out β} : (Out.stuck : Out α).bd f = .stuck := rfl
def Out.th (o : Out α) (f : α → State → SOut) : SOut := match o with
  | .ok a st => f a st
  | .exc c st => .exc c st
  | .stuck => .stuck
@[simp] theorem th_ok {a : α} {st : State} {f : α → State → SOut} : (Out.ok a st).th f = f a st := rfl
@[simp] theorem th_exc {c : Exc} {st : State} {f : α → State → SOut} : (Out.exc c st : Out α).th f = .exc c st := rfl
@[simp] theorem th_stuck {f : α → State → SOut} : (Out.stuck : Out α).th f = .stuck := rfl
theorem bd_bd {γ : Type} {o : Out α} {f : α → State → Out β} {g : β → State → Out γ} : (o.bd f).bd g = o.bd fun a st => (f a st).bd g := by cases o <;> rfl
theorem bd_th {o : Out α} {f : α → State → Out β} {g : β → State → SOut} : (o.bd f).th g = o.th fun a st => (f a st).th g := by cases o <;> rfl
def SOut.sq (o : SOut) (b : MS) : SOut := match o with
  | .nx st' => b st'
  | o => o
@[simp] theorem sq_nx {st : State} {b : MS} : (SOut.nx st).sq b = b st := rfl
@[simp] theorem sq_rt {r : RV} {st : State} {b : MS} : (SOut.rt r st).sq b = .rt r st := rfl
@[simp] theorem sq_exc {r : Exc} {st : State} {b : MS} : (SOut.exc r st).sq b = .exc r st := rfl
@[simp] theorem sq_bk {st : State} {b : MS} : (SOut.bk st).sq b = .bk st := rfl
@[simp] theorem sq_ct {st : State} {b : MS} : (SOut.ct st).sq b = .ct st := rfl
@[simp] theorem sq_stuck {b : MS} : SOut.stuck.sq b = .stuck := rfl
def SOut.lp (o : SOut) (k : MS) : SOut := match o with
  | .nx st' => k st'
  | .ct st' => k st'
  | .bk st' => .nx st'
  | o => o
@[simp] theorem lp_nx {st : State} {k : MS} : (SOut.nx st).lp k = k st := rfl
@[simp] theorem lp_ct {st : State} {k : MS} : (SOut.ct st).lp k = k st := rfl
@[simp] theorem lp_bk {st : State} {k : MS} : (SOut.bk st).lp k = .nx st := rfl
@[simp] theorem lp_rt {st : State} {k : MS} {r : RV} : (SOut.rt r st).lp k = .rt r st := rfl
@[simp] theorem lp_exc {st : State} {k : MS} {r : Exc} : (SOut.exc r st).lp k = .exc r st := rfl
@[simp] theorem lp_stuck {k : MS} : SOut.stuck.lp k = .stuck := rfl
def Out.opt (o : Option α) (st : State) : Out α := match o with
  | some a => .ok a st
  | none => .stuck
variable {st : State} {m a b c : M RV} {ml mr : M (List D)} {t u : M Bool} {x y : MS}
@[simp] theorem opt_some {a : α} : Out.opt (some a) st = .ok a st := rfl
@[simp] theorem opt_none : Out.opt (none : Option α) st = .stuck := rfl
/-- of one value, of two -/
def on1 (g : D → Option α) : Option D → Option α
  | some x => g x
  | none => none
def on2 (g : D → D → Option α) : Option D → Option D → Option α
  | some x, some y => g x y
  | _, _ => none
@[simp] theorem on1_e {g : D → Option α} {x : D} : on1 g (some x) = g x := rfl
@[simp] theorem on2_e {g : D → D → Option α} {x y : D} : on2 g (some x) (some y) = g x y := rfl
@[simp] theorem r_ofO {o : Option α} : M.ofO o st = Out.opt o st := by cases o <;> rfl
@[simp] theorem r_at2 {g : D → D → Option α} {r s : RV} : at2 g r s st = Out.opt (on2 g (view st r) (view st s)) st := by
  simp only [at2]
  cases view st r <;> cases view st s <;> simp [on2]
@[simp] theorem r_at1 {g : D → Option α} {r : RV} : at1 g r st = Out.opt (on1 g (view st r)) st := by
  simp only [at1]
  cases view st r <;> simp [on1]
/-! what is simple -/
@[simp] theorem r_pure {a : α} : M.pure a st = .ok a st := rfl
@[simp] theorem r_mstuck : (M.stuck : M α) st = .stuck := rfl
@[simp] theorem r_mL {d : D} : mL d st = .ok (.sh d) st := rfl
@[simp] theorem r_nx : mNx st = .nx st := rfl
@[simp] theorem r_brk : mBrk st = .bk st := rfl
@[simp] theorem r_cnt : mCnt st = .ct st := rfl
@[simp] theorem r_stk : mStk st = .stuck := rfl
@[simp] theorem r_seq : mSeq x y st = (x st).sq y := rfl
@[simp] theorem r_nil : mNil st = .ok [] st := rfl
@[simp] theorem r_yes : mYes st = .ok true st := rfl
@[simp] theorem r_no : mNo st = .ok none st := rfl
@[simp] theorem bor_sh {d : D} : (RV.sh d).bor = .sh d := rfl
@[simp] theorem bor_lo {i : Nat} : (RV.lo i).bor = .lo i := rfl
@[simp] theorem bor_ow {c : Cell} : (RV.ow c).bor = .sh c.frz := rfl
@[simp] theorem frz_sh {d : D} : RV.frz (.sh d) st = .ok d st := rfl
@[simp] theorem frz_ow {c : Cell} : RV.frz (.ow c) st = .ok c.frz st := rfl
@[simp] theorem frz_lo {i : Nat} : RV.frz (.lo i) st = mVar i st := rfl
@[simp] theorem cfrz_ls {ds : List D} : (Cell.ls ds).frz = .lst ds := rfl
@[simp] theorem cfrz_dc {ds : List (Key × D)} : (Cell.dc ds).frz = .dct ds := rfl
@[simp] theorem slot_sh {d : D} : (RV.sh d).slot = .sh d := rfl
@[simp] theorem slot_ow {c : Cell} : (RV.ow c).slot = .ow c := rfl
@[simp] theorem isLo_sh {d : D} : isLo (.sh d) = false := rfl
@[simp] theorem isLo_ow {d : Cell} : isLo (.ow d) = false := rfl
def RV.fix : RV → State → Out RV
  | .lo i, st => (mVar i st).bd fun d st => .ok (.sh d) st
  | r, st => .ok r st
@[simp] theorem fix_sh {d : D} : RV.fix (.sh d) st = .ok (.sh d) st := rfl
@[simp] theorem fix_ow {c : Cell} : RV.fix (.ow c) st = .ok (.ow c) st := rfl
@[simp] theorem fix_lo {i : Nat} : RV.fix (.lo i) st = (mVar i st).bd fun d st => .ok (.sh d) st := rfl
theorem r_bind {m : M α} {f : α → M β} : M.bind m f st = (m st).bd f := rfl
theorem r_then {m : M α} {f : α → MS} : M.then m f st = (m st).th f := rfl
theorem r_bor : M.bor m st = (m st).bd fun r st => .ok r.bor st := rfl
theorem r_frz : M.frz m st = (m st).bd RV.frz := rfl
theorem r_fix : M.fix m st = (m st).bd RV.fix := by
  show M.bind m _ st = _
  rw [r_bind]
  congr 1
  funext r
  cases r <;> rfl
/-! operations -/
def kOp2 (g : D → D → Option α) (r s : RV) (st : State) : Out α := Out.opt (on2 g (view st r.bor) (view st s.bor)) st
def kOp (g : D → D → Option α) (b : M RV) (r : RV) (st : State) : Out α := (b st).bd (kOp2 g r)
@[simp] theorem kOp2_e {g : D → D → Option α} {r s : RV} : kOp2 g r s st = Out.opt (on2 g (view st r.bor) (view st s.bor)) st := rfl
@[simp] theorem kOp_e {g : D → D → Option α} {r : RV} : kOp g b r st = (b st).bd (kOp2 g r) := rfl
@[simp] theorem r_op {g : D → D → Option RV} : mOp g a b st = (a st).bd (kOp g b) := by
  unfold kOp kOp2
  cases h1 : a st with
  | ok r st1 => cases h2 : b st1 <;> simp [mOp, M.bor, M.bind, M.pure, h1, h2, Out.bd]
  | exc c st1 => simp [mOp, M.bor, M.bind, M.pure, h1, Out.bd]
  | stuck => simp [mOp, M.bor, M.bind, M.pure, h1, Out.bd]
@[simp] theorem r_cmp {g : D → D → Option Bool} : mCmp g a b st = (a st).bd (kOp g b) := by
  unfold kOp kOp2
  cases h1 : a st with
  | ok r st1 => cases h2 : b st1 <;> simp [mCmp, M.bor, M.bind, M.pure, h1, h2, Out.bd]
  | exc c st1 => simp [mCmp, M.bor, M.bind, M.pure, h1, Out.bd]
  | stuck => simp [mCmp, M.bor, M.bind, M.pure, h1, Out.bd]
def kUn (g : D → Option α) (r : RV) (st : State) : Out α := Out.opt (on1 g (view st r.bor)) st
@[simp] theorem kUn_e {g : D → Option α} {r : RV} : kUn g r st = Out.opt (on1 g (view st r.bor)) st := rfl
@[simp] theorem r_un {g : D → Option RV} : mUn g a st = (a st).bd (kUn g) := by
  unfold kUn
  cases h1 : a st <;> simp [mUn, M.bor, M.bind, M.pure, h1, Out.bd]
@[simp] theorem r_Fm : mFm a st = (a st).bd (kUn opFmt) := by
  unfold kUn
  cases h1 : a st <;> simp [mFm, M.bor, M.bind, M.pure, h1, Out.bd]
/-! tests -/
def kBl (b : Bool) (st : State) : Out RV := .ok (.sh (.bl b)) st
@[simp] theorem kBl_e {b : Bool} : kBl b st = .ok (.sh (.bl b)) st := rfl
@[simp] theorem r_bl : mBl t st = (t st).bd kBl := rfl
def kAnd (u : M Bool) (c : Bool) (st : State) : Out Bool := if c then u st else .ok false st
@[simp] theorem kAnd_t : kAnd u true st = u st := rfl
@[simp] theorem kAnd_f : kAnd u false st = .ok false st := rfl
theorem kAnd_e {c : Bool} : kAnd u c st = if c then u st else .ok false st := rfl
def kOr (u : M Bool) (c : Bool) (st : State) : Out Bool := if c then .ok true st else u st
@[simp] theorem kOr_t : kOr u true st = .ok true st := rfl
@[simp] theorem kOr_f : kOr u false st = u st := rfl
theorem kOr_e {c : Bool} : kOr u c st = if c then .ok true st else u st := rfl
def kNot (c : Bool) (st : State) : Out Bool := .ok (!c) st
@[simp] theorem kNot_e {c : Bool} : kNot c st = .ok (!c) st := rfl
def kIf (a b : M α) (c : Bool) (st : State) : Out α := if c then a st else b st
@[simp] theorem kIf_t {a b : M α} : kIf a b true st = a st := rfl
@[simp] theorem kIf_f {a b : M α} : kIf a b false st = b st := rfl
theorem kIf_e {a b : M α} {c : Bool} : kIf a b c st = if c then a st else b st := rfl
def kIfS (a b : MS) (c : Bool) (st : State) : SOut := if c then a st else b st
@[simp] theorem kIfS_t {a b : MS} : kIfS a b true st = a st := rfl
@[simp] theorem kIfS_f {a b : MS} : kIfS a b false st = b st := rfl
theorem kIfS_e {a b : MS} {c : Bool} : kIfS a b c st = if c then a st else b st := rfl
@[simp] theorem r_and : mAnd t u st = (t st).bd (kAnd u) := by
  show M.bind t _ st = _
  rw [r_bind]; congr 1; funext c st; cases c <;> rfl
@[simp] theorem r_or : mOr t u st = (t st).bd (kOr u) := by
  show M.bind t _ st = _
  rw [r_bind]; congr 1; funext c st; cases c <;> rfl
@[simp] theorem r_not : mNot t st = (t st).bd kNot := rfl
@[simp] theorem r_if {a b : M α} : mIf t a b st = (t st).bd (kIf a b) := by
  show M.bind t _ st = _
  rw [r_bind]; congr 1; funext c st; cases c <;> rfl
@[simp] theorem r_ifs : mIfS t x y st = (t st).th (kIfS x y) := by
  show M.then t _ st = _
  rw [r_then]; congr 1; funext c st; cases c <;> rfl
def toB : RV → State → Out Bool
  | .sh (.bl b), st => .ok b st
  | _, _ => .stuck
@[simp] theorem toB_bl {b : Bool} : toB (.sh (.bl b)) st = .ok b st := rfl
@[simp] theorem r_B : mB m st = (m st).bd toB := by
  show M.bind m _ st = _
  rw [r_bind]; congr 1; funext r st
  cases r with
  | sh d => cases d <;> rfl
  | ow c => rfl
  | lo i => rfl
/-! arguments, displays -/
def kC3 (x : D) (xs : List D) (st : State) : Out (List D) := .ok (x :: xs) st
def kC2 (ml : M (List D)) (x : D) (st : State) : Out (List D) := (ml st).bd (kC3 x)
def kC1 (ml : M (List D)) (r : RV) (st : State) : Out (List D) := (RV.frz r st).bd (kC2 ml)
@[simp] theorem kC3_e {x : D} {xs : List D} : kC3 x xs st = .ok (x :: xs) st := rfl
@[simp] theorem kC2_e {x : D} : kC2 ml x st = (ml st).bd (kC3 x) := rfl
@[simp] theorem kC1_e {r : RV} : kC1 ml r st = (RV.frz r st).bd (kC2 ml) := rfl
@[simp] theorem r_cons : mCons a ml st = (a st).bd (kC1 ml) := by
  show ((a st).bd RV.frz).bd (kC2 ml) = (a st).bd (kC1 ml)
  cases a st <;> rfl
def kTup (xs : List D) (st : State) : Out RV := if xs.length ≤ lim then .ok (.sh (.tup xs)) st else .stuck
def kLst (xs : List D) (st : State) : Out RV := if xs.length ≤ lim then .ok (.ow (.ls xs)) st else .stuck
theorem kTup_e {xs : List D} (h : xs.length ≤ lim) : kTup xs st = .ok (.sh (.tup xs)) st := if_pos h
theorem kLst_e {xs : List D} (h : xs.length ≤ lim) : kLst xs st = .ok (.ow (.ls xs)) st := if_pos h
@[simp] theorem kTup_0 : kTup [] st = .ok (.sh (.tup [])) st := rfl
@[simp] theorem kTup_1 {a : D} : kTup [a] st = .ok (.sh (.tup [a])) st := kTup_e (by simp [lim])
@[simp] theorem kTup_2 {a b : D} : kTup [a, b] st = .ok (.sh (.tup [a, b])) st := kTup_e (by simp [lim])
@[simp] theorem kTup_3 {a b c : D} : kTup [a, b, c] st = .ok (.sh (.tup [a, b, c])) st := kTup_e (by simp [lim])
@[simp] theorem kTup_4 {a b c d : D} : kTup [a, b, c, d] st = .ok (.sh (.tup [a, b, c, d])) st := kTup_e (by simp [lim])
@[simp] theorem kLst_0 : kLst [] st = .ok (.ow (.ls [])) st := rfl
@[simp] theorem kLst_1 {a : D} : kLst [a] st = .ok (.ow (.ls [a])) st := kLst_e (by simp [lim])
@[simp] theorem kLst_2 {a b : D} : kLst [a, b] st = .ok (.ow (.ls [a, b])) st := kLst_e (by simp [lim])
@[simp] theorem kLst_3 {a b c : D} : kLst [a, b, c] st = .ok (.ow (.ls [a, b, c])) st := kLst_e (by simp [lim])
@[simp] theorem kLst_4 {a b c d : D} : kLst [a, b, c, d] st = .ok (.ow (.ls [a, b, c, d])) st := kLst_e (by simp [lim])
@[simp] theorem r_tup : mTup ml st = (ml st).bd kTup := by
  show M.bind ml _ st = _
  rw [r_bind]; congr 1; funext xs st
  show M.small _ _ st = _
  unfold M.small kTup
  by_cases h : xs.length ≤ lim
  · rw [if_pos h, if_pos h]; rfl
  · rw [if_neg h, if_neg h]; rfl
@[simp] theorem r_lst : mLst ml st = (ml st).bd kLst := by
  show M.bind ml _ st = _
  rw [r_bind]; congr 1; funext xs st
  show M.small _ _ st = _
  unfold M.small kLst
  by_cases h : xs.length ≤ lim
  · rw [if_pos h, if_pos h]; rfl
  · rw [if_neg h, if_neg h]; rfl
/-! statements -/
def kSet2 (i : Nat) (r : RV) (st : State) : SOut := .nx { st with env := st.env.set i r.slot }
def kSet (i : Nat) (r : RV) (st : State) : SOut := (RV.fix r st).th (kSet2 i)
@[simp] theorem kSet2_e {i : Nat} {r : RV} : kSet2 i r st = .nx { st with env := st.env.set i r.slot } := rfl
@[simp] theorem kSet_e {i : Nat} {r : RV} : kSet i r st = (RV.fix r st).th (kSet2 i) := rfl
@[simp] theorem r_set {i : Nat} : mSet i m st = (m st).th (kSet i) := by
  show (M.fix m st).th (kSet2 i) = _
  rw [r_fix, bd_th]; rfl
def kRet2 (r : RV) (st : State) : SOut := .rt r st
def kRet (r : RV) (st : State) : SOut := (RV.fix r st).th kRet2
@[simp] theorem kRet2_e {r : RV} : kRet2 r st = .rt r st := rfl
@[simp] theorem kRet_e {r : RV} : kRet r st = (RV.fix r st).th kRet2 := rfl
@[simp] theorem r_ret : mRet m st = (m st).th kRet := by
  show (M.fix m st).th kRet2 = _
  rw [r_fix, bd_th]; rfl
def kDrop (r : RV) (st : State) : SOut := .nx st
@[simp] theorem kDrop_e {r : RV} : kDrop r st = .nx st := rfl
@[simp] theorem r_drop : mDrop m st = (m st).th kDrop := rfl
def kP4 (i j : Nat) (r s : RV) (st : State) : SOut := if isLo s then .stuck else .nx { st with env := (st.env.set i r.slot).set j s.slot }
def kP3 (i j : Nat) (r s : RV) (st : State) : SOut := (RV.fix s st).th (kP4 i j r)
def kP2 (i j : Nat) (b : M RV) (r : RV) (st : State) : SOut := (b st).th (kP3 i j r)
def kP1 (i j : Nat) (b : M RV) (r : RV) (st : State) : SOut := (RV.fix r st).th (kP2 i j b)
@[simp] theorem kP4_e {i j : Nat} {r s : RV} : kP4 i j r s st = if isLo s then .stuck else .nx { st with env := (st.env.set i r.slot).set j s.slot } := rfl
@[simp] theorem kP3_e {i j : Nat} {r s : RV} : kP3 i j r s st = (RV.fix s st).th (kP4 i j r) := rfl
@[simp] theorem kP2_e {i j : Nat} {r : RV} : kP2 i j b r st = (b st).th (kP3 i j r) := rfl
@[simp] theorem kP1_e {i j : Nat} {r : RV} : kP1 i j b r st = (RV.fix r st).th (kP2 i j b) := rfl
@[simp] theorem r_par {i j : Nat} : mPar i j a b st = (a st).th (kP1 i j b) := by
  show (M.fix a st).th (fun r st => (M.fix b st).th (fun s st => if isLo s then SOut.stuck else .nx { st with env := (st.env.set i r.slot).set j s.slot })) = _
  rw [r_fix, bd_th]
  congr 1
  funext r st
  show _ = (RV.fix r st).th (kP2 i j b)
  congr 1
  funext r st
  rw [r_fix, bd_th]
  rfl
def kG2 (o : Option State) : SOut := match o with
  | some st' => .nx st'
  | none => .stuck
@[simp] theorem kG2_s {st : State} : kG2 (some st) = .nx st := rfl
@[simp] theorem kG2_n : kG2 none = .stuck := rfl
def kG1 (g : D → State → Option State) (d : D) (st : State) : SOut := kG2 (g d st)
def kG (g : D → State → Option State) (r : RV) (st : State) : SOut := (RV.frz r st).th (kG1 g)
@[simp] theorem kG1_e {g : D → State → Option State} {d : D} : kG1 g d st = kG2 (g d st) := rfl
@[simp] theorem kG_e {g : D → State → Option State} {r : RV} : kG g r st = (RV.frz r st).th (kG1 g) := rfl
@[simp] theorem r_asg {g : D → State → Option State} : mAsg g m st = (m st).th (kG g) := by
  show ((m st).bd RV.frz).th (kG1 g) = (m st).th (kG g)
  cases m st <;> rfl
@[simp] theorem r_gN {i : Nat} {d : D} : gN i d st = some { st with env := st.env.set i (.sh d) } := rfl
@[simp] theorem r_gnil : gsNil [] st = some st := rfl
@[simp] theorem r_gcons {g : D → State → Option State} {r : List D → State → Option State} {d : D} {ds : List D} : gsCons g r (d :: ds) st = (g d st).bind (r ds) := rfl
@[simp] theorem r_gT {n : Nat} {r : List D → State → Option State} {ds : List D} : gT n r (.tup ds) st = if ds.length = n then r ds st else none := rfl
/-! loops -/
@[simp] theorem r_while {f : State → Nat} : mWhile f t x st = mWhileN (f st) t x st := rfl
def kW (n : Nat) (t : M Bool) (x : MS) (k : Bool) (st : State) : SOut := if k then (x st).lp (mWhileN n t x) else .nx st
@[simp] theorem kW_t {n : Nat} : kW n t x true st = (x st).lp (mWhileN n t x) := rfl
@[simp] theorem kW_f {n : Nat} : kW n t x false st = .nx st := rfl
theorem r_whiles {n : Nat} : mWhileN (n + 1) t x st = (t st).th (kW n t x) := by
  show M.then t _ st = _
  rw [r_then]; congr 1; funext c st; cases c with
  | false => rfl
  | true =>
    show _ = (x st).lp (mWhileN n t x)
    cases h : x st <;> simp [h, SOut.lp]
def kF (g : D → State → Option State) (x : MS) (ds : List D) (st : State) : SOut := mForL g x ds st
@[simp] theorem kF_e {g : D → State → Option State} {ds : List D} : kF g x ds st = mForL g x ds st := rfl
@[simp] theorem r_for {it : M (List D)} {g : D → State → Option State} : mFor it g x st = (it st).th (kF g x) := rfl
theorem r_forn {g : D → State → Option State} : mForL g x [] st = .nx st := rfl
def kFb (x k : MS) (o : Option State) : SOut := match o with
  | some st1 => (x st1).lp k
  | none => .stuck
@[simp] theorem kFb_s {k : MS} : kFb x k (some st) = (x st).lp k := rfl
@[simp] theorem kFb_n {k : MS} : kFb x k none = .stuck := rfl
theorem r_fors {g : D → State → Option State} {d : D} {ds : List D} : mForL g x (d :: ds) st = kFb x (mForL g x ds) (g d st) := by
  simp only [mForL]
  cases g d st with
  | none => rfl
  | some st1 => simp only; cases h : x st1 <;> simp [kFb, h]
/-! methods -/
def kM3 (g : D → D → Option RV) (r s : RV) (st : State) : Out RV := Out.opt (on2 g (view st r.bor) (view st s.bor)) st
def kM2 (g : D → D → Option RV) (b : M RV) (r : RV) (_ : Unit) (st : State) : Out RV := (b st).bd (kM3 g r)
def kM (q : D → Option Unit) (g : D → D → Option RV) (b : M RV) (r : RV) (st : State) : Out RV := (Out.opt (on1 q (view st r.bor)) st).bd (kM2 g b r)
@[simp] theorem kM3_e {g : D → D → Option RV} {r s : RV} : kM3 g r s st = Out.opt (on2 g (view st r.bor) (view st s.bor)) st := rfl
@[simp] theorem kM2_e {g : D → D → Option RV} {r : RV} {u : Unit} : kM2 g b r u st = (b st).bd (kM3 g r) := rfl
@[simp] theorem kM_e {q : D → Option Unit} {g : D → D → Option RV} {r : RV} : kM q g b r st = (Out.opt (on1 q (view st r.bor)) st).bd (kM2 g b r) := rfl
@[simp] theorem isSt_e {z : Str} : isSt (.str z) = some () := rfl
@[simp] theorem isLst_e {z : List D} : isLst (.lst z) = some () := rfl
@[simp] theorem r_mS1 {g : D → D → Option RV} : mS1 g a b st = (a st).bd (kM isSt g b) := by
  have e : ∀ r st, (M.bind (at1 isSt (RV.bor r)) fun _ => M.bind (M.bor b) fun s => at2 g (RV.bor r) s) st = kM isSt g b r st := fun r st => by
    show (at1 isSt r.bor st).bd (fun _ st => ((b st).bd fun s st => .ok s.bor st).bd fun s st => at2 g r.bor s st) = (Out.opt (on1 isSt (view st r.bor)) st).bd (kM2 g b r)
    rw [r_at1]
    congr 1; funext u st
    show _ = (b st).bd (kM3 g r)
    rw [bd_bd]
    congr 1; funext s st
    exact r_at2
  show ((a st).bd fun r st => .ok r.bor st).bd (fun r => M.bind (at1 isSt r) fun _ => M.bind (M.bor b) fun s => at2 g r s) = _
  cases a st with
  | ok r st => exact e r st
  | exc c st => rfl
  | stuck => rfl
@[simp] theorem r_mL1 {g : D → D → Option RV} : mL1 g a b st = (a st).bd (kM isLst g b) := by
  have e : ∀ r st, (M.bind (at1 isLst (RV.bor r)) fun _ => M.bind (M.bor b) fun s => at2 g (RV.bor r) s) st = kM isLst g b r st := fun r st => by
    show (at1 isLst r.bor st).bd (fun _ st => ((b st).bd fun s st => .ok s.bor st).bd fun s st => at2 g r.bor s st) = (Out.opt (on1 isLst (view st r.bor)) st).bd (kM2 g b r)
    rw [r_at1]
    congr 1; funext u st
    show _ = (b st).bd (kM3 g r)
    rw [bd_bd]
    congr 1; funext s st
    exact r_at2
  show ((a st).bd fun r st => .ok r.bor st).bd (fun r => M.bind (at1 isLst r) fun _ => M.bind (M.bor b) fun s => at2 g r s) = _
  cases a st with
  | ok r st => exact e r st
  | exc c st => rfl
  | stuck => rfl
def kIt2 (d : D) (st : State) : Out (List D) := Out.opt (asSeq d) st
def kIt (r : RV) (st : State) : Out (List D) := (RV.frz r st).bd kIt2
@[simp] theorem kIt2_e {d : D} : kIt2 d st = Out.opt (asSeq d) st := rfl
@[simp] theorem kIt_e {r : RV} : kIt r st = (RV.frz r st).bd kIt2 := rfl
@[simp] theorem r_it : mIt a st = (a st).bd kIt := by
  have e : (fun d => M.ofO (asSeq d)) = kIt2 := by funext d st; exact r_ofO
  show ((a st).bd RV.frz).bd (fun d => M.ofO (asSeq d)) = _
  rw [e]
  cases a st <;> rfl
/-! calls -/
def kCall (n : Nat) (F : Fn) (ds : List D) (st : State) : Out RV := if ds.length = n then ofF st (F ds st.store) else .stuck
theorem kCall_e {n : Nat} {F : Fn} {ds : List D} (h : ds.length = n) : kCall n F ds st = ofF st (F ds st.store) := if_pos h
@[simp] theorem kCall_0 {F : Fn} : kCall 0 F [] st = ofF st (F [] st.store) := rfl
@[simp] theorem kCall_1 {F : Fn} {a : D} : kCall 1 F [a] st = ofF st (F [a] st.store) := rfl
@[simp] theorem kCall_2 {F : Fn} {a b : D} : kCall 2 F [a, b] st = ofF st (F [a, b] st.store) := rfl
@[simp] theorem kCall_3 {F : Fn} {a b c : D} : kCall 3 F [a, b, c] st = ofF st (F [a, b, c] st.store) := rfl
@[simp] theorem kCall_4 {F : Fn} {a b c d : D} : kCall 4 F [a, b, c, d] st = ofF st (F [a, b, c, d] st.store) := rfl
@[simp] theorem r_call {n : Nat} {F : Fn} : mCall n F ml st = (ml st).bd (kCall n F) := by
  show (ml st).bd (fun ds st => if ds.length = n then ofF st (F ds st.store) else .stuck) = _
  rfl
@[simp] theorem ofF_sh {d : D} {store : List Cell} : ofF st (.ret (.sh d) store) = .ok (.sh d) { st with store := store } := rfl
@[simp] theorem ofF_ow {d : Cell} {store : List Cell} : ofF st (.ret (.ow d) store) = .ok (.ow d) { st with store := store } := rfl
@[simp] theorem ofF_exc {c : Exc} {store : List Cell} : ofF st (.exc c store) = .exc c { st with store := store } := rfl
@[simp] theorem toF_sh {d : D} : toF (.rt (.sh d) st) = .ret (.sh d) st.store := rfl
@[simp] theorem toF_ow {d : Cell} : toF (.rt (.ow d) st) = .ret (.ow d) st.store := rfl
@[simp] theorem toF_nx : toF (.nx st) = .ret (.sh .non) st.store := rfl
@[simp] theorem toF_exc {c : Exc} : toF (.exc c st) = .exc c st.store := rfl
/-! what values look like -/
@[simp] theorem view_non : view st (.sh .non) = some .non := rfl
@[simp] theorem view_bl {x : Bool} : view st (.sh (.bl x)) = some (.bl x) := rfl
@[simp] theorem view_int {x : Int} : view st (.sh (.int x)) = some (.int x) := rfl
@[simp] theorem view_str {x : Str} : view st (.sh (.str x)) = some (.str x) := rfl
@[simp] theorem view_tup {x : List D} : view st (.sh (.tup x)) = some (.tup x) := rfl
@[simp] theorem view_lst {x : List D} : view st (.sh (.lst x)) = some (.lst x) := rfl
@[simp] theorem view_lsF {x : List D} : view st (.sh (.lsF x)) = some (.lsF x) := rfl
@[simp] theorem view_tpF {x : List D} : view st (.sh (.tpF x)) = some (.tpF x) := rfl
@[simp] theorem view_dct {x : List (Key × D)} : view st (.sh (.dct x)) = some (.dct x) := rfl
@[simp] theorem view_rcd {C : Addr} {x : List (Str × D)} : view st (.sh (.rcd C x)) = some (.rcd C x) := rfl
@[simp] theorem view_val {x : V} : view st (.sh (.val x)) = some (.val x) := rfl
theorem view_lo {i : Nat} : view st (.lo i) = match st.env[i]? with
  | some (.sh d) => some d
  | some (.ow c) => some c.frz
  | _ => none := rfl
theorem view_dc {n : Nat} {kvs : List (Key × D)} (h : st.store[n]? = some (.dc kvs)) : view st (.sh (.obj n)) = some (.dct kvs) := by simp only [view, h]
theorem view_ls {n : Nat} {kvs : List D} (h : st.store[n]? = some (.ls kvs)) : view st (.sh (.obj n)) = some (.lst kvs) := by simp only [view, h]
end
@[simp] theorem atI_0 {α : Type} {x : α} {xs : List α} : atI (x :: xs) 0 = some x := atI_nat (j := 0) rfl
@[simp] theorem atI_1 {α : Type} {x y : α} {xs : List α} : atI (x :: y :: xs) 1 = some y := atI_nat (j := 1) rfl
@[simp] theorem atI_2 {α : Type} {x y z : α} {xs : List α} : atI (x :: y :: z :: xs) 2 = some z := atI_nat (j := 2) rfl
theorem mV_sh {st : State} {i : Nat} {d : D} (h : st.env[i]? = some (.sh d)) : mV i st = .ok (.sh d) st := by simp only [mV, h]
theorem sml_of {i : Int} {k : Nat} (h : i.natAbs < 2 ^ k) (hk : k ≤ 399999) : sml i = true := by
  unfold sml
  by_cases h0 : i.natAbs = 0
  · rw [h0]; decide
  · exact decide_eq_true (Nat.lt_of_lt_of_le ((Nat.log2_lt h0).mpr h) (by omega))
/-! the operations -/
@[simp] theorem opAdd_i {i j : Int} : opAdd (.int i) (.int j) = some (.sh (.int (i + j))) := rfl
@[simp] theorem opSub_i {i j : Int} : opSub (.int i) (.int j) = some (.sh (.int (i - j))) := rfl
@[simp] theorem opMul_i {i j : Int} (h1 : sml i = true) (h2 : sml j = true) : opMul (.int i) (.int j) = some (.sh (.int (i * j))) := by simp [opMul, h1, h2]
@[simp] theorem opFdv_i {i j : Int} (h1 : 0 < j) (h2 : j.natAbs.log2 < 9000) : opFdv (.int i) (.int j) = some (.sh (.int (i / j))) := by simp [opFdv, h1, h2]
theorem opFdv_n {i j : Int} (h1 : j < 0) (h2 : j.natAbs.log2 < 9000) : opFdv (.int i) (.int j) = some (.sh (.int (i.fdiv j))) := by simp [opFdv, h1, h2, Int.not_lt.mpr (Int.le_of_lt h1)]
@[simp] theorem opMod_i {i j : Int} (h1 : 0 < j) : opMod (.int i) (.int j) = some (.sh (.int (i % j))) := by simp [opMod, h1]
@[simp] theorem opNeg_i {i : Int} : opNeg (.int i) = some (.sh (.int (-i))) := rfl
@[simp] theorem opAbs_i {i : Int} : opAbs (.int i) = some (.sh (.int (i.natAbs : Int))) := by
  have e : (if i < 0 then -i else i) = (i.natAbs : Int) := by split <;> omega
  show some (RV.sh (.int (if i < 0 then -i else i))) = _
  rw [e]
@[simp] theorem opLt_i {i j : Int} : opLt (.int i) (.int j) = some (decide (i < j)) := rfl
@[simp] theorem opLe_i {i j : Int} : opLe (.int i) (.int j) = some (decide (i ≤ j)) := rfl
@[simp] theorem opGt_i {i j : Int} : opGt (.int i) (.int j) = some (decide (j < i)) := rfl
@[simp] theorem opGe_i {i j : Int} : opGe (.int i) (.int j) = some (decide (j ≤ i)) := rfl
@[simp] theorem opIx_t {ds : List D} {i : Int} : opIx (.tup ds) (.int i) = (atI ds i).map .sh := rfl
@[simp] theorem opIx_l {ds : List D} {i : Int} : opIx (.lst ds) (.int i) = (atI ds i).map .sh := rfl
@[simp] theorem opIx_d {kvs : List (Key × D)} {k : D} : opIx (.dct kvs) k = (asKey k).bind fun k => (dget kvs k).map .sh := by cases k <;> rfl
end PM

set_option Elab.async false
set_option linter.all false
set_option maxRecDepth 100000
set_option maxHeartbeats 1200000
namespace PM
open PySem PySem.Spec L2
section
variable {st : State} {a b c m : M RV} {own : List Nat} {g : D → State → Option State} {t : M Bool} {e : M RV} {it : M (List D)}
/-! ### comprehensions -/
def kCo2 (o : Out (List D)) : Out RV := match o with
  | .ok xs st' => .ok (.ow (.ls xs)) st'
  | _ => .stuck
@[simp] theorem kCo2_e {xs : List D} : kCo2 (.ok xs st) = .ok (.ow (.ls xs)) st := rfl
def kCo (own : List Nat) (g : D → State → Option State) (t : M Bool) (e : M RV) (ds : List D) (st : State) : Out RV := kCo2 (mCompL own g t e ds [] (st.wipe own))
theorem kCo_e {ds : List D} : kCo own g t e ds st = kCo2 (mCompL own g t e ds [] (st.wipe own)) := rfl
@[simp] theorem r_comp : mComp own it g t e st = (it st).bd (kCo own g t e) := by
  show (it st).bd (fun ds st => match mCompL own g t e ds [] (st.wipe own) with
    | .ok xs st' => Out.ok (RV.ow (.ls xs)) st'
    | _ => .stuck) = _
  congr 1
/-- the items that pass f, each made into k of it -/
theorem compL_filter (f : D → Bool) (k : D → D) {st0 : State} (hw : st0.wipe own = st0) : ∀ (ds acc : List D), acc.length + ds.length ≤ lim → (∀ d ∈ ds, ∃ st1 st2, g d st0 = some st1 ∧ t st1 = .ok (f d) st2 ∧ (f d = false → st2.wipe own = st0) ∧ (f d = true → ∃ st3, e.frz st2 = .ok (k d) st3 ∧ st3.wipe own = st0)) →
    mCompL own g t e ds acc st0 = .ok (acc ++ (ds.filter f).map k) st0
  | [], acc, _, _ => by simp [mCompL]
  | d :: ds, acc, hl, h => by
    obtain ⟨st1, st2, h1, h2, h3, h4⟩ := h d (List.mem_cons_self ..)
    have hl' : acc.length + (ds.length + 1) ≤ lim := hl
    have rest : ∀ acc' : List D, acc'.length + ds.length ≤ lim → mCompL own g t e ds acc' st0 = .ok (acc' ++ (ds.filter f).map k) st0 := fun acc' hl => compL_filter f k hw ds acc' hl fun d' m => h d' (List.mem_cons_of_mem _ m)
    simp only [mCompL, hw, h1, h2]
    cases e1 : f d with
    | false =>
      simp only [h3 e1, rest acc (by omega), List.filter_cons, e1]
      rfl
    | true =>
      obtain ⟨st3, h5, h6⟩ := h4 e1
      simp only [h5, h6]
      rw [if_pos (by omega), rest (acc ++ [k d]) (by rw [List.length_append]; show acc.length + 1 + ds.length ≤ lim; omega), List.filter_cons, e1]
      simp
theorem comp_filter (f : D → Bool) (k : D → D) {ds : List D} (hl : ds.length ≤ lim) (h : ∀ d ∈ ds, ∃ st1 st2, g d (st.wipe own) = some st1 ∧ t st1 = .ok (f d) st2 ∧ (f d = false → st2.wipe own = st.wipe own) ∧ (f d = true → ∃ st3, e.frz st2 = .ok (k d) st3 ∧ st3.wipe own = st.wipe own))
    (hw : (st.wipe own).wipe own = st.wipe own) : kCo own g t e ds st = .ok (.ow (.ls ((ds.filter f).map k))) (st.wipe own) := by
  rw [kCo_e, compL_filter f k hw ds [] (by simpa using hl) h]
  rfl
/-- none passes -/
theorem comp_none {ds : List D} (hl : ds.length ≤ lim) (hw : (st.wipe own).wipe own = st.wipe own) (h : ∀ d ∈ ds, ∃ st1 st2, g d (st.wipe own) = some st1 ∧ t st1 = .ok false st2 ∧ st2.wipe own = st.wipe own) : kCo own g t e ds st = .ok (.ow (.ls [])) (st.wipe own) := by
  rw [comp_filter (fun _ => false) id hl (fun d m => ?_) hw]
  · simp
  · obtain ⟨st1, st2, h1, h2, h3⟩ := h d m
    exact ⟨st1, st2, h1, h2, fun _ => h3, fun z => by cases z⟩
@[simp] theorem wipe_e {env : List Slot} {s : List Cell} : State.wipe ⟨env, s⟩ own = ⟨wipeE env own, s⟩ := rfl
@[simp] theorem wipeE_n {env : List Slot} : wipeE env [] = env := rfl
@[simp] theorem wipeE_1 {env : List Slot} {i : Nat} {is : List Nat} : wipeE env (i :: is) = (wipeE env is).set i .un := rfl

/-! ### d[k] = v -/
def kU (o : Option (D × State)) : SOut := match o with
  | some (_, st') => .nx st'
  | none => .stuck
@[simp] theorem kU_s {d : D} : kU (some (d, st)) = .nx st := rfl
@[simp] theorem kU_n : kU none = .stuck := rfl
def kU4 (d : D) (r : RV) (kd : D) (st : State) : SOut := kU (upC (putC kd d) r.bor st)
def kU3 (d : D) (r : RV) (s : RV) (st : State) : SOut := (RV.frz s st).th (kU4 d r)
def kU2 (k : M RV) (d : D) (r : RV) (st : State) : SOut := (k st).th (kU3 d r)
def kU1 (a k : M RV) (d : D) (st : State) : SOut := (a st).th (kU2 k d)
def kU0 (a k : M RV) (r : RV) (st : State) : SOut := (RV.frz r st).th (kU1 a k)
@[simp] theorem kU4_e {d kd : D} {r : RV} : kU4 d r kd st = kU (upC (putC kd d) r.bor st) := rfl
@[simp] theorem kU3_e {d : D} {r s : RV} : kU3 d r s st = (RV.frz s st).th (kU4 d r) := rfl
@[simp] theorem kU2_e {d : D} {r : RV} : kU2 b d r st = (b st).th (kU3 d r) := rfl
@[simp] theorem kU1_e {d : D} : kU1 a b d st = (a st).th (kU2 b d) := rfl
@[simp] theorem kU0_e {r : RV} : kU0 a b r st = (RV.frz r st).th (kU1 a b) := rfl
@[simp] theorem r_put : mPut a b c st = (c st).th (kU0 a b) := by
  have e3 : ∀ (d : D) (r : RV) (st : State), (M.frz b).then (fun kd st => match upC (putC kd d) r.bor.bor st with
      | some (_, st') => SOut.nx st'
      | none => .stuck) st = kU2 b d r st := fun d r st => by
    have eb : r.bor.bor = r.bor := by cases r <;> rfl
    rw [eb]
    have e4 : ∀ (s : RV) (st : State), (RV.frz s st).th (fun kd st => match upC (putC kd d) r.bor st with
      | some (_, st') => SOut.nx st'
      | none => .stuck) = kU3 d r s st := fun s st => by
      show _ = (RV.frz s st).th (kU4 d r)
      congr 1
    show ((b st).bd RV.frz).th _ = (b st).th (kU3 d r)
    cases b st with
    | ok s st1 => exact e4 s st1
    | exc c st1 => rfl
    | stuck => rfl
  have e2 : ∀ (d : D) (st : State), (M.bind a fun r => M.pure r.bor).then (fun r => (M.frz b).then (fun kd st => match upC (putC kd d) r.bor st with
      | some (_, st') => SOut.nx st'
      | none => .stuck)) st = kU1 a b d st := fun d st => by
    show ((a st).bd fun r st => .ok r.bor st).th _ = (a st).th (kU2 b d)
    cases a st with
    | ok r st1 => exact e3 d r st1
    | exc c st1 => rfl
    | stuck => rfl
  have e5 : ∀ (r : RV) (st : State), (RV.frz r st).th (fun d => (M.bind a fun r => M.pure r.bor).then (fun r => (M.frz b).then (fun kd st => match upC (putC kd d) r.bor st with
      | some (_, st') => SOut.nx st'
      | none => .stuck))) = kU0 a b r st := fun r st => by
    show _ = (RV.frz r st).th (kU1 a b)
    congr 1
    funext d st2
    exact e2 d st2
  show ((c st).bd RV.frz).th _ = (c st).th (kU0 a b)
  cases c st with
  | ok r st1 => exact e5 r st1
  | exc c st1 => rfl
  | stuck => rfl
/-! ### slices -/
def kPt (r : RV) (st : State) : Out (Option Int) := match r with
  | .sh (.int i) => .ok (some i) st
  | _ => .stuck
@[simp] theorem kPt_e {i : Int} : kPt (.sh (.int i)) st = .ok (some i) st := rfl
@[simp] theorem r_pt : mPt m st = (m st).bd kPt := by
  show M.bind m _ st = _
  rw [r_bind]; congr 1; funext r st
  cases r with
  | sh d => cases d <;> rfl
  | ow c => rfl
  | lo i => rfl
def kS2 (r : RV) (l h : Option Int) (st : State) : Out RV := Out.opt (on1 (fun x => opSl x l h) (view st r.bor)) st
def kS1 (hi : M (Option Int)) (r : RV) (l : Option Int) (st : State) : Out RV := (hi st).bd (kS2 r l)
def kS0 (lo hi : M (Option Int)) (r : RV) (st : State) : Out RV := (lo st).bd (kS1 hi r)
@[simp] theorem kS2_e {r : RV} {l h : Option Int} : kS2 r l h st = Out.opt (on1 (fun x => opSl x l h) (view st r.bor)) st := rfl
@[simp] theorem kS1_e {hi : M (Option Int)} {r : RV} {l : Option Int} : kS1 hi r l st = (hi st).bd (kS2 r l) := rfl
@[simp] theorem kS0_e {lo hi : M (Option Int)} {r : RV} : kS0 lo hi r st = (lo st).bd (kS1 hi r) := rfl
@[simp] theorem r_sl {lo hi : M (Option Int)} : mSl a lo hi st = (a st).bd (kS0 lo hi) := by
  have e : ∀ (r : RV) (st : State), (M.bind lo fun l => M.bind hi fun h => at1 (fun x => opSl x l h) r.bor) st = kS0 lo hi r st := fun r st => by
    show (lo st).bd _ = (lo st).bd (kS1 hi r)
    congr 1; funext l st
    show (hi st).bd _ = (hi st).bd (kS2 r l)
    congr 1; funext h st
    exact r_at1
  show ((a st).bd fun r st => .ok r.bor st).bd (fun r => M.bind lo fun l => M.bind hi fun h => at1 (fun x => opSl x l h) r) = _
  cases a st with
  | ok r st => exact e r st
  | exc c st => rfl
  | stuck => rfl
/-! ### f'..' -/
def kJ (ms : List (M RV)) (acc : Str) (r : RV) (st : State) : Out Str := match r with
  | .sh (.str z) => if (acc ++ z).length ≤ lim then mJs ms (acc ++ z) st else .stuck
  | _ => .stuck
theorem kJ_e {ms : List (M RV)} {acc z : Str} (h : (acc ++ z).length ≤ lim) : kJ ms acc (.sh (.str z)) st = mJs ms (acc ++ z) st := if_pos h
@[simp] theorem r_js0 {acc : Str} : mJs [] acc st = .ok acc st := rfl
@[simp] theorem r_js {m : M RV} {ms : List (M RV)} {acc : Str} : mJs (m :: ms) acc st = (m st).bd (kJ ms acc) := by
  show M.bind m _ st = _
  rw [r_bind]; congr 1; funext r st
  cases r with
  | sh d =>
    cases d <;> try rfl
    rename_i z
    show (if (acc ++ z).length ≤ lim then mJs ms (acc ++ z) else M.stuck) st = (if (acc ++ z).length ≤ lim then mJs ms (acc ++ z) st else .stuck)
    split <;> rfl
  | ow c => rfl
  | lo i => rfl
def kJo (z : Str) (st : State) : Out RV := .ok (.sh (.str z)) st
@[simp] theorem kJo_e {z : Str} : kJo z st = .ok (.sh (.str z)) st := rfl
@[simp] theorem r_join {ms : List (M RV)} : mJoin ms st = (mJs ms Str.empty st).bd kJo := rfl
/-! ### new things -/
def kNew (r : RV) (st : State) : Out RV := match r with
  | .ow c => .ok (.sh (.obj st.store.length)) { st with store := st.store ++ [c] }
  | _ => .stuck
@[simp] theorem kNew_e {c : Cell} : kNew (.ow c) st = .ok (.sh (.obj st.store.length)) { st with store := st.store ++ [c] } := rfl
@[simp] theorem r_new : mNew m st = (m st).bd kNew := by
  show (m st).bd (fun r st => match r with
    | .ow c => (Out.ok (RV.sh (.obj st.store.length)) { st with store := st.store ++ [c] } : Out RV)
    | _ => .stuck) = _
  congr 1
def kD3 (x y : D) (ps : List (D × D)) (st : State) : Out (List (D × D)) := .ok ((x, y) :: ps) st
def kD2 (r : List (M RV × M RV)) (x y : D) (st : State) : Out (List (D × D)) := (mPr r st).bd (kD3 x y)
def kD1' (r : List (M RV × M RV)) (x : D) (s : RV) (st : State) : Out (List (D × D)) := (RV.frz s st).bd (kD2 r x)
def kD1 (v : M RV) (r : List (M RV × M RV)) (x : D) (st : State) : Out (List (D × D)) := (v st).bd (kD1' r x)
def kD0 (v : M RV) (r : List (M RV × M RV)) (s : RV) (st : State) : Out (List (D × D)) := (RV.frz s st).bd (kD1 v r)
variable {r : List (M RV × M RV)} {x y : D} {s : RV} {v k : M RV} {ps : List (D × D)}
@[simp] theorem kD3_e : kD3 x y ps st = .ok ((x, y) :: ps) st := rfl
@[simp] theorem kD2_e : kD2 r x y st = (mPr r st).bd (kD3 x y) := rfl
@[simp] theorem kD1'_e : kD1' r x s st = (RV.frz s st).bd (kD2 r x) := rfl
@[simp] theorem kD1_e : kD1 v r x st = (v st).bd (kD1' r x) := rfl
@[simp] theorem kD0_e : kD0 v r s st = (RV.frz s st).bd (kD1 v r) := rfl
@[simp] theorem r_pr0 : mPr [] st = .ok [] st := rfl
@[simp] theorem r_pr : mPr ((k, v) :: r) st = (k st).bd (kD0 v r) := by
  show ((k st).bd RV.frz).bd (fun x => M.bind (M.frz v) fun y => M.bind (mPr r) fun ps => M.pure ((x, y) :: ps)) = _
  cases k st with
  | ok s st =>
    show (RV.frz s st).bd _ = (RV.frz s st).bd (kD1 v r)
    congr 1; funext x st
    show ((v st).bd RV.frz).bd (fun y => M.bind (mPr r) fun ps => M.pure ((x, y) :: ps)) = (v st).bd (kD1' r x)
    cases v st <;> rfl
  | exc c st => rfl
  | stuck => rfl
def kDi (ps : List (D × D)) (st : State) : Out RV := match asKs ps with
  | some kvs => if kvs.length ≤ 15 then .ok (.ow (.dc (mergeD [] kvs))) st else .stuck
  | none => .stuck
theorem kDi_e {kvs : List (Key × D)} (h : asKs ps = some kvs) (hl : kvs.length ≤ 15) : kDi ps st = .ok (.ow (.dc (mergeD [] kvs))) st := by simp only [kDi, h, if_pos hl]
@[simp] theorem r_disp : mDisp r st = (mPr r st).bd kDi := by
  show M.bind (mPr r) _ st = _
  rw [r_bind]; congr 1; funext ps st
  show (match asKs ps with
    | some kvs => if kvs.length ≤ 15 then M.pure (.ow (.dc (mergeD [] kvs))) else M.stuck
    | none => M.stuck : M RV) st = kDi ps st
  unfold kDi
  cases asKs ps with
  | none => rfl
  | some kvs => simp only; split <;> rfl
end
end PM

set_option Elab.async false
set_option linter.all false
set_option maxRecDepth 100000
set_option maxHeartbeats 1200000
namespace PM
open PySem PySem.Spec L2
/-! ### texts by their signs -/
def tx (l : List Nat) : Str := ⟨l.toArray⟩
@[simp] theorem tx_l (l : List Nat) : (tx l).cps.toList = l := rfl
theorem tx_of (x : Str) : tx x.cps.toList = x := TL.mk_tl x
@[simp] theorem tx_len (l : List Nat) : (tx l).length = l.length := by simp [tx, Str.length]
@[simp] theorem tx_cat (a b : List Nat) : tx a ++ tx b = tx (a ++ b) := TL.ext_tl (TL.tl_append (tx a) (tx b))
theorem tx_inj {a b : List Nat} (h : tx a = tx b) : a = b := congrArg (fun x : Str => x.cps.toList) h
theorem tx_eq {a b : List Nat} : (tx a = tx b) = (a = b) := propext ⟨tx_inj, fun h => by rw [h]⟩
theorem tx_num (n : Nat) : Str.ofString (toString ((n : Nat) : Int)) = tx (TL.numL n) := by
  rw [← TL.tl_num n]
  exact (TL.mk_tl _).symm
theorem cut_tx (l : List Nat) (lo hi : Option Int) : cutS (tx l) lo hi = tx (cut l lo hi) := by
  show (⟨(((tx l).cps.toList.drop (HT.sIx (tx l).length 0 lo)).take (HT.sIx (tx l).length (tx l).length hi - HT.sIx (tx l).length 0 lo)).toArray⟩ : Str) = _
  rw [tx_len]
  rfl
theorem cut_to {α : Type} (l : List α) (k : Nat) : cut l none (some (k : Int)) = l.take k := by
  unfold cut
  rw [HT.sIx_none, HT.sIx_nat, List.drop_zero, Nat.sub_zero]
  by_cases h : k ≤ l.length
  · rw [Nat.min_eq_left h]
  · rw [Nat.min_eq_right (by omega), List.take_of_length_le (Nat.le_refl _), List.take_of_length_le (by omega)]
theorem cut_from {α : Type} (l : List α) (k : Nat) : cut l (some (k : Int)) none = l.drop k := by
  unfold cut
  rw [HT.sIx_none, HT.sIx_nat]
  by_cases h : k ≤ l.length
  · rw [Nat.min_eq_left h, List.take_of_length_le (by rw [List.length_drop]; exact Nat.le_refl _)]
  · rw [Nat.min_eq_right (by omega), List.drop_eq_nil_of_le (Nat.le_refl _), List.drop_eq_nil_of_le (by omega), List.take_nil]
theorem cut_mid {α : Type} (l : List α) (j k : Nat) (h : j + k ≤ l.length) : cut l (some (j : Int)) (some ((j + k : Nat) : Int)) = (l.drop j).take k := by
  unfold cut
  have h2 : j ≤ l.length := by omega
  rw [HT.sIx_nat, HT.sIx_nat, Nat.min_eq_left h, Nat.min_eq_left h2]
  congr 1
  omega
@[simp] theorem opSl_tx {l : List Nat} {lo hi : Option Int} (h : l.length ≤ lim) : opSl (.str (tx l)) lo hi = some (.sh (.str (tx (cut l lo hi)))) := by
  show (if (tx l).length ≤ lim then some (RV.sh (.str (cutS (tx l) lo hi))) else none) = _
  rw [tx_len, if_pos h, cut_tx]
@[simp] theorem opLen_tx {l : List Nat} (h : l.length ≤ lim) : opLen (.str (tx l)) = some (.sh (.int (l.length : Nat))) := by
  simp [opLen, h]
@[simp] theorem opAdd_tx {a b : List Nat} (h : a.length + b.length ≤ lim) : opAdd (.str (tx a)) (.str (tx b)) = some (.sh (.str (tx (a ++ b)))) := by
  simp [opAdd, h]
@[simp] theorem eq_tx {a b : List Nat} (ha : PyData.strOk (tx a) = true) (hb : PyData.strOk (tx b) = true) : opEq (.str (tx a)) (.str (tx b)) = some (decide (a = b)) := by
  have e : (tx a == tx b) = decide (a = b) := by
    by_cases h : a = b
    · subst h; simp
    · rw [decide_eq_false h]
      exact beq_false_of_ne fun z => h (tx_inj z)
  simp [opEq, D.py, SeqAt.shaped, PyData.canLay0, PyData.depth, PyData.eqv, e, ha, hb]
@[simp] theorem ne_tx {a b : List Nat} (ha : PyData.strOk (tx a) = true) (hb : PyData.strOk (tx b) = true) : opNe (.str (tx a)) (.str (tx b)) = some (!decide (a = b)) := by simp [opNe, ha, hb]
theorem opStr_n {n : Nat} (h : n.log2 < 1920) : opStr (.int (n : Int)) = some (.sh (.str (tx (TL.numL n)))) := by
  have e : opStr (.int (n : Int)) = if n.log2 < 1920 then some (.sh (.str (Str.ofString (toString ((n : Nat) : Int))))) else none := rfl
  rw [e, if_pos h, tx_num]
theorem opInt_tx {l : List Nat} (h : NumText.AllDigits l) (h1 : l ≠ []) (h2 : l.length ≤ 640) : opInt (.str (tx l)) = some (.sh (.int (NumText.digitsVal l : Nat))) := by
  show (if (tx l).length ≤ 640 then (intText? (tx l)).map fun n => RV.sh (.int n) else none) = _
  rw [tx_len, if_pos h2, intText_digits (x := tx l) h h1 (by rw [tx_len]; omega)]
  rfl
/-! ### digits -/
theorem dv_snoc (l : List Nat) (c : Nat) : NumText.digitsVal (l ++ [c]) = NumText.digitsVal l * 10 + (c - 48) := NumText.digitsVal_snoc l c
theorem dv_app (a : List Nat) : ∀ b : List Nat, NumText.digitsVal (a ++ b) = NumText.digitsVal a * 10 ^ b.length + NumText.digitsVal b := by
  suffices h : ∀ b : List Nat, NumText.digitsVal (a ++ b.reverse) = NumText.digitsVal a * 10 ^ b.reverse.length + NumText.digitsVal b.reverse from fun b => by
    have := h b.reverse
    rwa [List.reverse_reverse] at this
  intro b
  induction b with
  | nil => simp [NumText.digitsVal]
  | cons c b ih =>
    rw [List.reverse_cons, ← List.append_assoc, dv_snoc, ih, dv_snoc, List.length_append, List.length_singleton, Nat.pow_succ]
    grind
end PM

set_option Elab.async false
set_option linter.all false
set_option maxRecDepth 100000
set_option maxHeartbeats 1200000
namespace PM
open PySem PySem.Spec L2
theorem all_app {a b : List Nat} (ha : NumText.AllDigits a) (hb : NumText.AllDigits b) : NumText.AllDigits (a ++ b) := fun c hc => (List.mem_append.mp hc).elim (ha c) (hb c)
theorem all_rep (k : Nat) : NumText.AllDigits (List.replicate k 48) := fun c hc => by rw [List.eq_of_mem_replicate hc]; decide
theorem dv_rep (k : Nat) (l : List Nat) : NumText.digitsVal (List.replicate k 48 ++ l) = NumText.digitsVal l := by
  induction k with
  | zero => rfl
  | succ k ih => rw [List.replicate_succ, List.cons_append, NumText.digitsVal_zero, ih]
/-- the first digit of a number above 0 is not 0 -/
theorem numL_head : ∀ n : Nat, 0 < n → ∃ c r, TL.numL n = c :: r ∧ 49 ≤ c := by
  intro n
  induction n using Nat.strongRecOn with
  | _ n ih =>
    intro h0
    by_cases h : n < 10
    · exact ⟨48 + n, [], TL.numL_lt h, by omega⟩
    · obtain ⟨c, r, e, hc⟩ := ih (n / 10) (by omega) (by omega)
      exact ⟨c, r ++ [48 + n % 10], by rw [TL.numL_step (by omega), e]; rfl, hc⟩
theorem numL_of {l : List Nat} (h : NumText.AllDigits l) {c : Nat} {r : List Nat} (e : l = c :: r) (hc : 49 ≤ c) : TL.numL (NumText.digitsVal l) = l := by
  have t := NumText.toDigits_digitsVal r.length l (by rw [e]; rfl) h (.inr ⟨c, r, e, hc⟩)
  unfold TL.numL
  rw [t, List.map_map]
  conv => rhs; rw [← List.map_id l]
  refine List.map_congr_left fun d hd => ?_
  have := h d hd
  show (Char.ofNat d).toNat = d
  have hv : d.isValidChar := Or.inl (by omega)
  simp [Char.ofNat, hv, Char.toNat, Char.ofNatAux]
/-- a number in two parts -/
def padL (k : Nat) (l : List Nat) : List Nat := List.replicate (k - l.length) 48 ++ l
theorem padL_len {k : Nat} {l : List Nat} (h : l.length ≤ k) : (padL k l).length = k := by
  unfold padL
  rw [List.length_append, List.length_replicate]
  omega
theorem padL_dig {k : Nat} {l : List Nat} (h : NumText.AllDigits l) : NumText.AllDigits (padL k l) := all_app (all_rep _) h
theorem padL_val {k : Nat} {l : List Nat} : NumText.digitsVal (padL k l) = NumText.digitsVal l := dv_rep _ _
theorem numL_split {q r k : Nat} (hq : 0 < q) (hk : 0 < k) (hr : r < 10 ^ k) : TL.numL (q * 10 ^ k + r) = TL.numL q ++ padL k (TL.numL r) := by
  obtain ⟨c, s, e, hc⟩ := numL_head q hq
  have hl : (padL k (TL.numL r)).length = k := padL_len (TL.numL_len hk hr)
  have hv : NumText.digitsVal (TL.numL q ++ padL k (TL.numL r)) = q * 10 ^ k + r := by rw [dv_app, hl, padL_val, TL.numL_val, TL.numL_val]
  rw [← hv]
  exact numL_of (all_app (TL.numL_digits q) (padL_dig (TL.numL_digits r))) (c := c) (r := s ++ padL k (TL.numL r)) (by rw [e]; rfl) hc
theorem zfill_tx {l : List Nat} (h : NumText.AllDigits l) {k : Nat} (hl : l.length ≤ k) : Txt.zfill (tx l) (k : Int) = tx (padL k l) := by
  unfold Txt.zfill
  by_cases e : ((k : Nat) : Int) ≤ (tx l).length
  · rw [if_pos e]
    rw [tx_len] at e
    have : k - l.length = 0 := by omega
    unfold padL
    rw [this]
    rfl
  · rw [if_neg e]
    have hm : (((k : Nat) : Int)).toNat - (tx l).length = k - l.length := by rw [tx_len]; omega
    rw [hm]
    have hp : Builtin.Str.padded (tx l) (k - l.length) 0 48 = tx (padL k l) := by
      refine TL.ext_tl ?_
      show ((Array.replicate (k - l.length) 48 ++ l.toArray ++ Array.replicate 0 48) : Array Nat).toList = padL k l
      simp [padL]
    unfold zfilled
    have hd : ∀ c, (tx l).cps[0]? = some c → 48 ≤ c ∧ c ≤ 57 := fun c hc => by
      have e1 : l[0]? = some c := by
        have e0 : (l.toArray)[0]? = some c := hc
        simpa using e0
      exact h c (List.mem_of_getElem? e1)
    split
    · rename_i hc; have := hd _ hc; omega
    · rename_i hc; have := hd _ hc; omega
    · exact hp
end PM

set_option Elab.async false
set_option linter.all false
set_option maxRecDepth 100000
set_option maxHeartbeats 4000000
namespace A04
open PySem PySem.Spec L2 PM
def m__law_pen : MS :=
  mRet (mNew (mDisp [(mL (.str "cells"), mUn opList (mSl (mV 0) (mNo) (mPt (mL (.int 63))))), (mL (.str "used"), mL (.int 0)), (mL (.str "left"), mL (.int 0))]))
def F__law_pen : Fn := runF m__law_pen 0
def m__law_draw (Frec : Fn) : MS :=
  mSeq (mIfS (mCmp opGt (mOp opIx (mV 0) (mL (.str "left"))) (mL (.int 0))) (mSeq (mSet 2 (mOp opMod (mOp opIx (mV 0) (mL (.str "left"))) (mV 1)))
  (mSeq (mPut (mV 0) (mL (.str "left")) (mOp opFdv (mOp opIx (mV 0) (mL (.str "left"))) (mV 1)))
  (mRet (mV 2)))) (mNx))
  (mSeq (mSet 3 (mOp opIx (mV 0) (mL (.str "used"))))
  (mSeq (mPut (mV 0) (mL (.str "used")) (mOp opAdd (mV 3) (mL (.int 1))))
  (mSeq (mSet 4 (mOp opAdd (mOp opMul (mL (.int 43)) (mV 3)) (mL (.int 7))))
  (mSeq (mIfS (mCmp opNe (mOp opIx (mV 0) (mL (.str "cells"))) (mLst (mNil))) (mSet 4 (mOp opIx (mOp opIx (mV 0) (mL (.str "cells"))) (mOp opMod (mV 3) (mUn opLen (mOp opIx (mV 0) (mL (.str "cells"))))))) (mNx))
  (mSeq (mIfS (mAnd (mCmp opLt (mV 3) (mUn opLen (mOp opIx (mV 0) (mL (.str "cells"))))) (mCmp opGe (mUn opAbs (mV 4)) (mOp opPow (mL (.int 10)) (mL (.int 18))))) (mSeq (mPut (mV 0) (mL (.str "left")) (mOp opFdv (mOp opSub (mUn opAbs (mV 4)) (mOp opPow (mL (.int 10)) (mL (.int 18)))) (mV 1)))
  (mRet (mOp opMod (mOp opSub (mUn opAbs (mV 4)) (mOp opPow (mL (.int 10)) (mL (.int 18)))) (mV 1)))) (mNx))
  (mSeq (mSet 5 (mOp opAdd (mOp opMul (mOp opMod (mV 4) (mL (.int 4294967231))) (mL (.int 1103515))) (mOp opMul (mOp opMul (mL (.int 30011)) (mV 3)) (mV 3))))
  (mSeq (mSet 5 (mOp opMod (mOp opAdd (mOp opAdd (mV 5) (mOp opMul (mL (.int 178481)) (mV 3))) (mL (.int 23))) (mL (.int 4294967197))))
  (mSeq (mSet 5 (mOp opMod (mOp opAdd (mOp opAdd (mOp opAdd (mOp opMul (mV 5) (mV 5)) (mOp opMul (mL (.int 16769023)) (mV 5))) (mOp opMul (mL (.int 5)) (mV 3))) (mL (.int 7))) (mL (.int 4294967189))))
  (mSeq (mSet 5 (mOp opFdv (mOp opMod (mOp opMul (mV 5) (mOp opAdd (mV 5) (mL (.int 28629151)))) (mL (.int 4294967291))) (mL (.int 64))))
  (mSeq (mIfS (mCmp opGt (mV 1) (mL (.int 60000000))) (mSet 5 (mOp opAdd (mV 5) (mOp opMul (mL (.int 60000000)) (mCall 2 Frec (mCons (mV 0) (mCons (mOp opAdd (mOp opFdv (mV 1) (mL (.int 60000000))) (mL (.int 1))) (mNil))))))) (mNx))
  (mRet (mOp opMod (mV 5) (mV 1)))))))))))))
def F__law_draw : Nat → Fn
  | 0 => fun _ _ => .stuck
  | n + 1 => runF (m__law_draw (F__law_draw n)) 4
def m__law_pick : MS :=
  mRet (mOp opIx (mV 1) (mCall 2 (F__law_draw 8) (mCons (mV 0) (mCons (mUn opLen (mV 1)) (mNil)))))
def F__law_pick : Fn := runF m__law_pick 0
def m__law_low : MS :=
  mSeq (mPar 2 3 (mUn opAbs (mV 0)) (mUn opAbs (mV 1)))
  (mSeq (mWhile (fun st => natAt st 3 + 1) (mCmp opGt (mV 3) (mL (.int 0))) (mPar 2 3 (mV 3) (mOp opMod (mV 2) (mV 3))))
  (mSeq (mSet 2 (mIf (mCmp opGt (mV 1) (mL (.int 0))) (mV 2) (mUn opNeg (mV 2))))
  (mRet (mTup (mCons (mOp opFdv (mV 0) (mV 2)) (mCons (mOp opFdv (mV 1) (mV 2)) (mNil)))))))
def F__law_low : Fn := runF m__law_low 2
def m__law_integer : MS :=
  mRet (mOp opSub (mCall 2 (F__law_draw 8) (mCons (mV 0) (mCons (mOp opAdd (mOp opMul (mL (.int 2)) (mV 1)) (mL (.int 1))) (mNil)))) (mV 1))
def F__law_integer : Fn := runF m__law_integer 0
def m__law_fraction : MS :=
  mSeq (mSet 1 (mCall 2 F__law_pick (mCons (mV 0) (mCons (mLst (mCons (mL (.int 3)) (mCons (mL (.int 12)) (mCons (mL (.int 1000)) (mCons (mOp opPow (mL (.int 10)) (mL (.int 30))) (mNil)))))) (mNil)))))
  (mRet (mCall 2 F__law_low (mCons (mCall 2 F__law_integer (mCons (mV 0) (mCons (mV 1) (mNil)))) (mCons (mOp opAdd (mL (.int 1)) (mCall 2 (F__law_draw 8) (mCons (mV 0) (mCons (mCall 2 F__law_pick (mCons (mV 0) (mCons (mLst (mCons (mL (.int 1)) (mCons (mL (.int 6)) (mCons (mV 1) (mNil))))) (mNil)))) (mNil))))) (mNil)))))
def F__law_fraction : Fn := runF m__law_fraction 1
def m_is_less : MS :=
  mRet (mBl (mCmp opLt (mOp opMul (mOp opIx (mV 0) (mL (.int 0))) (mOp opIx (mV 1) (mL (.int 1)))) (mOp opMul (mOp opIx (mV 1) (mL (.int 0))) (mOp opIx (mV 0) (mL (.int 1))))))
def F_is_less : Fn := runF m_is_less 0
def m_least_of : MS :=
  mSeq (mSet 2 (mV 0))
  (mSeq (mFor (mIt (mV 1)) (gN 3) (mIfS (mB (mCall 2 F_is_less (mCons (mV 3) (mCons (mV 2) (mNil))))) (mSet 2 (mV 3)) (mNx)))
  (mRet (mV 2)))
def F_least_of_2 : Fn := fun ds store => runF m_least_of 2 (ds.take 1 ++ [.tup (ds.drop 1)]) store
def F_least_of_3 : Fn := fun ds store => runF m_least_of 2 (ds.take 1 ++ [.tup (ds.drop 1)]) store
def m_greatest_of : MS :=
  mSeq (mSet 2 (mV 0))
  (mSeq (mFor (mIt (mV 1)) (gN 3) (mIfS (mB (mCall 2 F_is_less (mCons (mV 2) (mCons (mV 3) (mNil))))) (mSet 2 (mV 3)) (mNx)))
  (mRet (mV 2)))
def F_greatest_of_3 : Fn := fun ds store => runF m_greatest_of 2 (ds.take 1 ++ [.tup (ds.drop 1)]) store
def m_divisor : MS :=
  mSeq (mPar 0 1 (mUn opAbs (mV 0)) (mUn opAbs (mV 1)))
  (mSeq (mWhile (fun st => natAt st 1 + 1) (mCmp opGt (mV 1) (mL (.int 0))) (mPar 0 1 (mV 1) (mOp opMod (mV 0) (mV 1))))
  (mRet (mV 0)))
def F_divisor : Fn := runF m_divisor 0
def m_reduced : MS :=
  mSeq (mSet 2 (mCall 2 F_divisor (mCons (mV 0) (mCons (mV 1) (mNil)))))
  (mSeq (mIfS (mCmp opLt (mV 1) (mL (.int 0))) (mSet 2 (mUn opNeg (mV 2))) (mNx))
  (mRet (mTup (mCons (mOp opFdv (mV 0) (mV 2)) (mCons (mOp opFdv (mV 1) (mV 2)) (mNil))))))
def F_reduced : Fn := runF m_reduced 1
def m_plus : MS :=
  mRet (mCall 2 F_reduced (mCons (mOp opAdd (mOp opMul (mOp opIx (mV 0) (mL (.int 0))) (mOp opIx (mV 1) (mL (.int 1)))) (mOp opMul (mOp opIx (mV 1) (mL (.int 0))) (mOp opIx (mV 0) (mL (.int 1))))) (mCons (mOp opMul (mOp opIx (mV 0) (mL (.int 1))) (mOp opIx (mV 1) (mL (.int 1)))) (mNil))))
def F_plus : Fn := runF m_plus 0
def m_minus : MS :=
  mRet (mCall 2 F_reduced (mCons (mOp opSub (mOp opMul (mOp opIx (mV 0) (mL (.int 0))) (mOp opIx (mV 1) (mL (.int 1)))) (mOp opMul (mOp opIx (mV 1) (mL (.int 0))) (mOp opIx (mV 0) (mL (.int 1))))) (mCons (mOp opMul (mOp opIx (mV 0) (mL (.int 1))) (mOp opIx (mV 1) (mL (.int 1)))) (mNil))))
def F_minus : Fn := runF m_minus 0
def m_times : MS :=
  mRet (mCall 2 F_reduced (mCons (mOp opMul (mOp opIx (mV 0) (mL (.int 0))) (mOp opIx (mV 1) (mL (.int 0)))) (mCons (mOp opMul (mOp opIx (mV 0) (mL (.int 1))) (mOp opIx (mV 1) (mL (.int 1)))) (mNil))))
def F_times : Fn := runF m_times 0
def m__law_order_right : MS :=
  mSeq (mIfS (mOr (mCmp opNe (mL1 opCnt (mLst (mCons (mCall 2 F_is_less (mCons (mV 0) (mCons (mV 1) (mNil)))) (mCons (mBl (mCmp opEq (mV 0) (mV 1))) (mCons (mCall 2 F_is_less (mCons (mV 1) (mCons (mV 0) (mNil)))) (mNil))))) (mL (.bl true))) (mL (.int 1))) (mB (mCall 2 F_is_less (mCons (mV 0) (mCons (mV 0) (mNil)))))) (mRet (mL (.bl false))) (mNx))
  (mSeq (mIfS (mCmp opNe (mCall 2 F_is_less (mCons (mV 0) (mCons (mV 1) (mNil)))) (mCall 2 F_is_less (mCons (mCall 2 F_plus (mCons (mV 0) (mCons (mV 2) (mNil)))) (mCons (mCall 2 F_plus (mCons (mV 1) (mCons (mV 2) (mNil)))) (mNil))))) (mRet (mL (.bl false))) (mNx))
  (mSeq (mIfS (mCmp opNe (mCall 2 F_is_less (mCons (mV 0) (mCons (mV 1) (mNil)))) (mCall 2 F_is_less (mCons (mTup (mCons (mL (.int 0)) (mCons (mL (.int 1)) (mNil)))) (mCons (mCall 2 F_minus (mCons (mV 1) (mCons (mV 0) (mNil)))) (mNil))))) (mRet (mL (.bl false))) (mNx))
  (mSeq (mIfS (mAnd (mB (mCall 2 F_is_less (mCons (mTup (mCons (mL (.int 0)) (mCons (mL (.int 1)) (mNil)))) (mCons (mV 2) (mNil))))) (mCmp opNe (mCall 2 F_is_less (mCons (mV 0) (mCons (mV 1) (mNil)))) (mCall 2 F_is_less (mCons (mCall 2 F_times (mCons (mV 0) (mCons (mV 2) (mNil)))) (mCons (mCall 2 F_times (mCons (mV 1) (mCons (mV 2) (mNil)))) (mNil)))))) (mRet (mL (.bl false))) (mNx))
  (mSeq (mIfS (mAnd (mB (mCall 2 F_is_less (mCons (mV 0) (mCons (mV 1) (mNil))))) (mAnd (mB (mCall 2 F_is_less (mCons (mV 1) (mCons (mV 2) (mNil))))) (mNot (mB (mCall 2 F_is_less (mCons (mV 0) (mCons (mV 2) (mNil)))))))) (mRet (mL (.bl false))) (mNx))
  (mSeq (mAsg (gT 2 (gsCons (gN 3) (gsCons (gN 4) (gsNil)))) (mTup (mCons (mCall 3 F_least_of_3 (mCons (mV 0) (mCons (mV 1) (mCons (mV 2) (mNil))))) (mCons (mCall 3 F_greatest_of_3 (mCons (mV 0) (mCons (mV 1) (mCons (mV 2) (mNil))))) (mNil)))))
  (mSeq (mIfS (mCmp opNe (mComp [5] (mIt (mTup (mCons (mV 0) (mCons (mV 1) (mCons (mV 2) (mNil)))))) (gN 5) (mOr (mB (mCall 2 F_is_less (mCons (mV 5) (mCons (mV 3) (mNil))))) (mB (mCall 2 F_is_less (mCons (mV 4) (mCons (mV 5) (mNil)))))) (mV 5)) (mLst (mNil))) (mRet (mL (.bl false))) (mNx))
  (mRet (mBl (mAnd (mCmp opIn (mV 3) (mTup (mCons (mV 0) (mCons (mV 1) (mCons (mV 2) (mNil)))))) (mCmp opIn (mV 4) (mTup (mCons (mV 0) (mCons (mV 1) (mCons (mV 2) (mNil)))))))))))))))
def F__law_order_right : Fn := runF m__law_order_right 3
def m_over : MS :=
  mSeq (mIfS (mCmp opEq (mOp opIx (mV 1) (mL (.int 0))) (mL (.int 0))) (mStk) (mNx))
  (mRet (mCall 2 F_reduced (mCons (mOp opMul (mOp opIx (mV 0) (mL (.int 0))) (mOp opIx (mV 1) (mL (.int 1)))) (mCons (mOp opMul (mOp opIx (mV 0) (mL (.int 1))) (mOp opIx (mV 1) (mL (.int 0)))) (mNil)))))
def F_over : Fn := runF m_over 0
def m__law_fields_right : MS :=
  mSeq (mIfS (mOr (mCmp opNe (mCall 2 F_plus (mCons (mV 0) (mCons (mV 1) (mNil)))) (mCall 2 F_plus (mCons (mV 1) (mCons (mV 0) (mNil))))) (mOr (mCmp opNe (mCall 2 F_times (mCons (mV 0) (mCons (mV 1) (mNil)))) (mCall 2 F_times (mCons (mV 1) (mCons (mV 0) (mNil))))) (mCmp opNe (mCall 2 F_minus (mCons (mV 0) (mCons (mV 0) (mNil)))) (mTup (mCons (mL (.int 0)) (mCons (mL (.int 1)) (mNil))))))) (mRet (mL (.bl false))) (mNx))
  (mSeq (mIfS (mOr (mCmp opNe (mCall 2 F_plus (mCons (mCall 2 F_plus (mCons (mV 0) (mCons (mV 1) (mNil)))) (mCons (mV 2) (mNil)))) (mCall 2 F_plus (mCons (mV 0) (mCons (mCall 2 F_plus (mCons (mV 1) (mCons (mV 2) (mNil)))) (mNil))))) (mCmp opNe (mCall 2 F_times (mCons (mCall 2 F_times (mCons (mV 0) (mCons (mV 1) (mNil)))) (mCons (mV 2) (mNil)))) (mCall 2 F_times (mCons (mV 0) (mCons (mCall 2 F_times (mCons (mV 1) (mCons (mV 2) (mNil)))) (mNil)))))) (mRet (mL (.bl false))) (mNx))
  (mSeq (mIfS (mCmp opNe (mCall 2 F_times (mCons (mV 0) (mCons (mCall 2 F_plus (mCons (mV 1) (mCons (mV 2) (mNil)))) (mNil)))) (mCall 2 F_plus (mCons (mCall 2 F_times (mCons (mV 0) (mCons (mV 1) (mNil)))) (mCons (mCall 2 F_times (mCons (mV 0) (mCons (mV 2) (mNil)))) (mNil))))) (mRet (mL (.bl false))) (mNx))
  (mSeq (mIfS (mCmp opNe (mCall 2 F_times (mCons (mV 0) (mCons (mCall 2 F_minus (mCons (mV 1) (mCons (mV 2) (mNil)))) (mNil)))) (mCall 2 F_minus (mCons (mCall 2 F_times (mCons (mV 0) (mCons (mV 1) (mNil)))) (mCons (mCall 2 F_times (mCons (mV 0) (mCons (mV 2) (mNil)))) (mNil))))) (mRet (mL (.bl false))) (mNx))
  (mSeq (mIfS (mOr (mCmp opNe (mCall 2 F_minus (mCons (mCall 2 F_plus (mCons (mV 0) (mCons (mV 1) (mNil)))) (mCons (mV 1) (mNil)))) (mV 0)) (mOr (mCmp opNe (mCall 2 F_plus (mCons (mCall 2 F_minus (mCons (mV 0) (mCons (mV 1) (mNil)))) (mCons (mV 1) (mNil)))) (mV 0)) (mOr (mCmp opNe (mCall 2 F_plus (mCons (mV 0) (mCons (mTup (mCons (mL (.int 0)) (mCons (mL (.int 1)) (mNil)))) (mNil)))) (mV 0)) (mCmp opNe (mCall 2 F_times (mCons (mV 0) (mCons (mTup (mCons (mL (.int 1)) (mCons (mL (.int 1)) (mNil)))) (mNil)))) (mV 0))))) (mRet (mL (.bl false))) (mNx))
  (mRet (mBl (mOr (mCmp opEq (mV 1) (mTup (mCons (mL (.int 0)) (mCons (mL (.int 1)) (mNil))))) (mAnd (mCmp opEq (mCall 2 F_over (mCons (mCall 2 F_times (mCons (mV 0) (mCons (mV 1) (mNil)))) (mCons (mV 1) (mNil)))) (mV 0)) (mCmp opEq (mCall 2 F_times (mCons (mCall 2 F_over (mCons (mV 0) (mCons (mV 1) (mNil)))) (mCons (mV 1) (mNil)))) (mV 0))))))))))
def F__law_fields_right : Fn := runF m__law_fields_right 0
def m_is_tuple_of : MS :=
  mRet (mBl (mAnd (mB (mOp opIsi (mV 0) (mL (.val (.ty "tuple"))))) (mCmp opEq (mUn opLen (mV 0)) (mV 1))))
def F_is_tuple_of : Fn := runF m_is_tuple_of 0
def m_is_integer : MS :=
  mRet (mBl (mAnd (mB (mOp opIsi (mV 0) (mL (.val (.ty "int"))))) (mNot (mB (mOp opIsi (mV 0) (mL (.val (.ty "bool"))))))))
def F_is_integer : Fn := runF m_is_integer 0
def m_is_fraction : MS :=
  mSeq (mIfS (mOr (mNot (mB (mCall 2 F_is_tuple_of (mCons (mV 0) (mCons (mL (.int 2)) (mNil)))))) (mOr (mNot (mB (mCall 1 F_is_integer (mCons (mOp opIx (mV 0) (mL (.int 0))) (mNil))))) (mNot (mB (mCall 1 F_is_integer (mCons (mOp opIx (mV 0) (mL (.int 1))) (mNil))))))) (mRet (mL (.bl false))) (mNx))
  (mRet (mBl (mAnd (mCmp opGt (mOp opIx (mV 0) (mL (.int 1))) (mL (.int 0))) (mCmp opEq (mCall 2 F_divisor (mCons (mOp opIx (mV 0) (mL (.int 0))) (mCons (mOp opIx (mV 0) (mL (.int 1))) (mNil)))) (mL (.int 1))))))
def F_is_fraction : Fn := runF m_is_fraction 0
def m_number_of : MS :=
  mSeq (mSet 1 (mOp opMod (mUn opLen (mV 0)) (mL (.int 60))))
  (mSeq (mSet 2 (mUn opInt (mOp opAdd (mL (.str "0")) (mSl (mV 0) (mNo) (mPt (mV 1))))))
  (mSeq (mFor (mRg3 (mV 1) (mUn opLen (mV 0)) (mL (.int 60))) (gN 3) (mSet 2 (mOp opAdd (mOp opMul (mV 2) (mL (.int 1000000000000000000000000000000000000000000000000000000000000))) (mUn opInt (mSl (mV 0) (mPt (mV 3)) (mPt (mOp opAdd (mV 3) (mL (.int 60)))))))))
  (mRet (mV 2))))
def F_number_of : Fn := runF m_number_of 3
def m_number_in : MS :=
  mSeq (mSet 1 (mIf (mCmp opEq (mSl (mV 0) (mNo) (mPt (mL (.int 1)))) (mL (.str "-"))) (mSl (mV 0) (mPt (mL (.int 1))) (mNo)) (mV 0)))
  (mSeq (mIfS (mOr (mCmp opEq (mV 1) (mL (.str ""))) (mNot (mB (mUn opAll (mComp [2] (mItS (mV 1)) (gN 2) (mYes) (mBl (mCmp opIn (mV 2) (mL (.str "0123456789"))))))))) (mRet (mL .non)) (mNx))
  (mSeq (mIfS (mAnd (mCmp opEq (mOp opIx (mV 1) (mL (.int 0))) (mL (.str "0"))) (mCmp opNe (mV 0) (mL (.str "0")))) (mRet (mL .non)) (mNx))
  (mRet (mIf (mCmp opEq (mV 0) (mV 1)) (mCall 1 F_number_of (mCons (mV 1) (mNil))) (mUn opNeg (mCall 1 F_number_of (mCons (mV 1) (mNil))))))))
def F_number_in : Fn := runF m_number_in 2
def m_fraction_in : MS :=
  mSeq (mAsg (gT 3 (gsCons (gN 1) (gsCons (gN 2) (gsCons (gN 3) (gsNil))))) (mS1 opPart (mV 0) (mL (.str "/"))))
  (mSeq (mPar 4 5 (mCall 1 F_number_in (mCons (mV 1) (mNil))) (mIf (mCmp opEq (mV 2) (mL (.str ""))) (mL (.int 1)) (mCall 1 F_number_in (mCons (mV 3) (mNil)))))
  (mSeq (mIfS (mOr (mCmp opIs2 (mV 4) (mL .non)) (mOr (mCmp opIs2 (mV 5) (mL .non)) (mOr (mAnd (mCmp opEq (mV 2) (mL (.str "/"))) (mCmp opLt (mV 5) (mL (.int 2)))) (mNot (mB (mCall 1 F_is_fraction (mCons (mTup (mCons (mV 4) (mCons (mV 5) (mNil)))) (mNil)))))))) (mRet (mL .non)) (mNx))
  (mRet (mTup (mCons (mV 4) (mCons (mV 5) (mNil)))))))
def F_fraction_in : Fn := runF m_fraction_in 5
def m_read_fraction : MS :=
  mSeq (mSet 1 (mIf (mB (mOp opIsi (mV 0) (mL (.val (.ty "str"))))) (mCall 1 F_fraction_in (mCons (mV 0) (mNil))) (mL .non)))
  (mSeq (mIfS (mCmp opIs2 (mV 1) (mL .non)) (mStk) (mNx))
  (mRet (mV 1)))
def F_read_fraction : Fn := runF m_read_fraction 1
def m_digits_of : MS :=
  mSeq (mPar 1 2 (mUn opAbs (mV 0)) (mL (.str "")))
  (mSeq (mWhile (fun st => natAt st 1 + 1) (mCmp opGe (mV 1) (mL (.int 1000000000000000000000000000000000000000000000000000000000000))) (mSeq (mSet 2 (mOp opAdd (mS1 opZf (mUn opStr (mOp opMod (mV 1) (mL (.int 1000000000000000000000000000000000000000000000000000000000000)))) (mL (.int 60))) (mV 2)))
  (mSet 1 (mOp opFdv (mV 1) (mL (.int 1000000000000000000000000000000000000000000000000000000000000))))))
  (mRet (mOp opAdd (mOp opAdd (mIf (mCmp opLt (mV 0) (mL (.int 0))) (mL (.str "-")) (mL (.str ""))) (mUn opStr (mV 1))) (mV 2))))
def F_digits_of : Fn := runF m_digits_of 2
def m_text_of : MS :=
  mRet (mIf (mCmp opEq (mOp opIx (mV 0) (mL (.int 1))) (mL (.int 1))) (mCall 1 F_digits_of (mCons (mOp opIx (mV 0) (mL (.int 0))) (mNil))) (mJoin [mFm (mCall 1 F_digits_of (mCons (mOp opIx (mV 0) (mL (.int 0))) (mNil))), mL (.str "/"), mFm (mCall 1 F_digits_of (mCons (mOp opIx (mV 0) (mL (.int 1))) (mNil)))]))
def F_text_of : Fn := runF m_text_of 0
def m_law : MS :=
  mSeq (mSet 1 (mCall 1 F__law_pen (mCons (mV 0) (mNil))))
  (mSeq (mFor (mRg1 (mL (.int 12))) (gN 2) (mSeq (mPar 3 4 (mCall 1 F__law_fraction (mCons (mV 1) (mNil))) (mCall 1 F__law_fraction (mCons (mV 1) (mNil))))
  (mSeq (mSet 5 (mCall 1 F__law_fraction (mCons (mV 1) (mNil))))
  (mSeq (mSet 4 (mCall 2 F__law_pick (mCons (mV 1) (mCons (mLst (mCons (mV 4) (mCons (mV 4) (mCons (mV 3) (mCons (mTup (mCons (mL (.int 0)) (mCons (mL (.int 1)) (mNil)))) (mNil)))))) (mNil)))))
  (mSeq (mIfS (mOr (mNot (mB (mCall 3 F__law_fields_right (mCons (mV 3) (mCons (mV 4) (mCons (mV 5) (mNil))))))) (mNot (mB (mCall 3 F__law_order_right (mCons (mV 3) (mCons (mV 4) (mCons (mV 5) (mNil)))))))) (mRet (mL (.bl false))) (mNx))
  (mSeq (mIfS (mNot (mB (mCall 3 F__law_order_right (mCons (mV 5) (mCons (mV 3) (mCons (mV 4) (mNil))))))) (mRet (mL (.bl false))) (mNx))
  (mSeq (mSet 6 (mLst (mCons (mCall 2 F_plus (mCons (mV 3) (mCons (mV 4) (mNil)))) (mCons (mCall 2 F_minus (mCons (mV 3) (mCons (mV 5) (mNil)))) (mCons (mCall 2 F_times (mCons (mV 4) (mCons (mV 5) (mNil)))) (mNil))))))
  (mSeq (mSet 6 (mOp opAdd (mV 6) (mLst (mCons (mCall 2 F_times (mCons (mV 3) (mCons (mV 3) (mNil)))) (mCons (mCall 2 F_least_of_2 (mCons (mV 3) (mCons (mV 5) (mNil)))) (mNil))))))
  (mSeq (mIfS (mCmp opNe (mComp [7] (mIt (mV 6)) (gN 7) (mCmp opIsNot2 (mCall 1 F_is_fraction (mCons (mV 7) (mNil))) (mL (.bl true))) (mV 7)) (mLst (mNil))) (mRet (mL (.bl false))) (mNx))
  (mIfS (mCmp opNe (mComp [7] (mIt (mV 6)) (gN 7) (mCmp opNe (mCall 1 F_read_fraction (mCons (mCall 1 F_text_of (mCons (mV 7) (mNil))) (mNil))) (mV 7)) (mV 7)) (mLst (mNil))) (mRet (mL (.bl false))) (mNx)))))))))))
  (mRet (mL (.bl true))))
def F_law : Fn := runF m_law 7
end A04

set_option Elab.async false
set_option linter.all false
set_option maxRecDepth 100000
set_option maxHeartbeats 2000000
set_option exponentiation.threshold 9000
namespace A04
open PySem PySem.Spec L2 PM

/-! ### fractions as rational numbers -/
def fr (q : Rat) : D := .tup [.int q.num, .int (q.den : Int)]
theorem gcd_loop (s : List Cell) : ∀ (n a b : Nat), b < n → mWhileN n (mCmp opGt (mV 1) (mL (.int 0))) (mPar 0 1 (mV 1) (mOp opMod (mV 0) (mV 1))) ⟨[.sh (.int a), .sh (.int b)], s⟩ = .nx ⟨[.sh (.int (Nat.gcd a b)), .sh (.int 0)], s⟩
  | 0, _, _, h => absurd h (Nat.not_lt_zero _)
  | n + 1, a, 0, _ => by
    rw [r_whiles]
    simp [mV]
  | n + 1, a, b + 1, h => by
    have h2 : a % (b + 1) < b + 1 := Nat.mod_lt _ (Nat.succ_pos _)
    have e : ((a : Int) % ((b : Int) + 1)) = ((a % (b + 1) : Nat) : Int) := (Int.natCast_emod a (b + 1)).symm
    have hp : (0 : Int) < (b : Int) + 1 := by omega
    have ih := gcd_loop s n (b + 1) (a % (b + 1)) (by omega)
    rw [Nat.gcd_comm (b + 1), ← Nat.gcd_rec, Nat.gcd_comm] at ih
    rw [r_whiles]
    simp [mV, hp]
    rw [e]
    exact ih
theorem s_divisor (a b : Int) (s : List Cell) : F_divisor [.int a, .int b] s = .ret (.sh (.int (Int.gcd a b : Nat))) s := by
  simp [F_divisor, runF, m_divisor, entry, mV, natAt, gcd_loop]
  rfl
theorem log2_le {k : Nat} {n : Nat} (h : n < 2 ^ k) (hk : k < 9000) : n.log2 < 9000 := by
  by_cases h0 : n = 0
  · rw [h0]; decide
  · exact Nat.lt_trans ((Nat.log2_lt h0).mpr h) hk
theorem fr_divInt (n d : Int) (h0 : d ≠ 0) : fr (Rat.divInt n d) = .tup [.int (d.sign * n / (Int.gcd n d : Nat)), .int (d.natAbs / (Int.gcd n d : Nat))] := by
  unfold fr
  rw [Rat.num_divInt, Rat.den_divInt, if_neg h0, Int.gcd_comm d n]
  simp
theorem s_reduced (n d : Int) (s : List Cell) (h0 : d ≠ 0) (hb : d.natAbs < 2 ^ 8000) : F_reduced [.int n, .int d] s = .ret (.sh (fr (Rat.divInt n d))) s := by
  have g0 : 0 < Int.gcd n d := Int.gcd_pos_of_ne_zero_right _ h0
  have gl : Int.gcd n d ≤ d.natAbs := Nat.le_of_dvd (Int.natAbs_pos.mpr h0) (Int.gcd_dvd_natAbs_right ..)
  have lg : (Int.gcd n d).log2 < 9000 := log2_le (Nat.lt_of_le_of_lt gl hb) (by decide)
  have g1 : (0 : Int) < (Int.gcd n d : Nat) := by omega
  rw [fr_divInt n d h0]
  by_cases hd : d < 0
  · have e1 : d.sign = -1 := Int.sign_eq_neg_one_of_neg hd
    have dn : ((Int.gcd n d : Nat) : Int) ∣ n := Int.gcd_dvd_left ..
    have dd : ((Int.gcd n d : Nat) : Int) ∣ d := Int.gcd_dvd_right ..
    have f1 : n.fdiv (-(Int.gcd n d : Nat)) = -1 * n / (Int.gcd n d : Nat) := by
      obtain ⟨c, hc⟩ := dn
      generalize (Int.gcd n d : Nat) = g at *
      subst hc
      rw [Int.neg_one_mul, ← Int.mul_neg, Int.mul_ediv_cancel_left _ (by omega), show (g : Int) * c = (-c) * (-(g : Int)) by rw [Int.neg_mul_neg, Int.mul_comm], Int.mul_fdiv_cancel _ (by omega)]
    have f2 : d.fdiv (-(Int.gcd n d : Nat)) = d.natAbs / (Int.gcd n d : Nat) := by
      obtain ⟨c, hc⟩ := dd
      have e2 : (d.natAbs : Int) = -d := by omega
      rw [e2]
      generalize (Int.gcd n d : Nat) = g at *
      subst hc
      rw [← Int.mul_neg, Int.mul_ediv_cancel_left _ (by omega), show (g : Int) * c = (-c) * (-(g : Int)) by rw [Int.neg_mul_neg, Int.mul_comm], Int.mul_fdiv_cancel _ (by omega)]
    simp [F_reduced, runF, m_reduced, entry, mV, s_divisor, hd, opFdv_n, g1, lg, f1, f2, e1, g0]
  · have e1 : d.sign = 1 := Int.sign_eq_one_of_pos (by omega)
    have e2 : (d.natAbs : Int) = d := by omega
    simp [F_reduced, runF, m_reduced, entry, mV, s_divisor, hd, g0, lg, e1, e2]

/-! sizes -/
def Bd (k : Nat) (q : Rat) : Prop := q.num.natAbs < 2 ^ k ∧ q.den < 2 ^ k
theorem Bd.mono {k l : Nat} {q : Rat} (h : Bd k q) (hl : k ≤ l) : Bd l q := ⟨Nat.lt_of_lt_of_le h.1 (Nat.pow_le_pow_right (by decide) hl), Nat.lt_of_lt_of_le h.2 (Nat.pow_le_pow_right (by decide) hl)⟩
theorem ediv_le (a : Int) (g : Nat) (hg : 0 < g) (hd : (g : Int) ∣ a) : (a / (g : Int)).natAbs ≤ a.natAbs := by
  obtain ⟨c, rfl⟩ := hd
  rw [Int.mul_ediv_cancel_left _ (by omega), Int.natAbs_mul]
  exact Nat.le_mul_of_pos_left _ (by simpa using hg)
theorem bd_divInt {k : Nat} {n d : Int} (h0 : d ≠ 0) (hn : n.natAbs < 2 ^ k) (hd : d.natAbs < 2 ^ k) : Bd k (Rat.divInt n d) := by
  have g0 : 0 < Int.gcd d n := Int.gcd_pos_of_ne_zero_left _ h0
  constructor
  · rw [Rat.num_divInt]
    refine Nat.lt_of_le_of_lt (ediv_le _ _ g0 ?_) ?_
    · exact Int.dvd_mul_of_dvd_right (Int.gcd_dvd_right ..)
    · rw [Int.natAbs_mul, Int.natAbs_sign_of_ne_zero h0, Nat.one_mul]
      exact hn
  · rw [Rat.den_divInt, if_neg h0]
    exact Nat.lt_of_le_of_lt (Nat.div_le_self _ _) hd
theorem pow_mul_lt {a b k l : Nat} (ha : a < 2 ^ k) (hb : b < 2 ^ l) : a * b < 2 ^ (k + l) := by
  rw [Nat.pow_add]
  exact Nat.mul_lt_mul'' ha hb
theorem mul_lt {a b : Int} {k l : Nat} (ha : a.natAbs < 2 ^ k) (hb : b.natAbs < 2 ^ l) : (a * b).natAbs < 2 ^ (k + l) := by
  rw [Int.natAbs_mul]
  exact pow_mul_lt ha hb
theorem add_lt {a b : Int} {k : Nat} (ha : a.natAbs < 2 ^ k) (hb : b.natAbs < 2 ^ k) : (a + b).natAbs < 2 ^ (k + 1) := by
  rw [Nat.pow_succ]
  omega
theorem sub_lt {a b : Int} {k : Nat} (ha : a.natAbs < 2 ^ k) (hb : b.natAbs < 2 ^ k) : (a - b).natAbs < 2 ^ (k + 1) := by
  rw [Nat.pow_succ]
  omega
theorem add_eq (p q : Rat) : p + q = Rat.divInt (p.num * q.den + q.num * p.den) (p.den * q.den) := by
  have h1 : (p.den : Int) ≠ 0 := by have := p.den_nz; omega
  have h2 : (q.den : Int) ≠ 0 := by have := q.den_nz; omega
  rw [← Rat.divInt_add_divInt _ _ h1 h2, Rat.num_divInt_den, Rat.num_divInt_den]
theorem sub_eq (p q : Rat) : p - q = Rat.divInt (p.num * q.den - q.num * p.den) (p.den * q.den) := by
  have h1 : (p.den : Int) ≠ 0 := by have := p.den_nz; omega
  have h2 : (q.den : Int) ≠ 0 := by have := q.den_nz; omega
  rw [← Rat.divInt_sub_divInt _ _ h1 h2, Rat.num_divInt_den, Rat.num_divInt_den]
theorem mul_eq (p q : Rat) : p * q = Rat.divInt (p.num * q.num) (p.den * q.den) := by
  rw [← Rat.divInt_mul_divInt, Rat.num_divInt_den, Rat.num_divInt_den]
theorem div_eq (p q : Rat) (h : q ≠ 0) : p / q = Rat.divInt (p.num * q.den) (p.den * q.num) := by
  rw [← Rat.divInt_mul_divInt, Rat.num_divInt_den, Rat.div_def, Rat.inv_def]
theorem dd_ne (p q : Rat) : ((p.den : Int) * (q.den : Int)) ≠ 0 := Int.mul_ne_zero (by have := p.den_nz; omega) (by have := q.den_nz; omega)
section
variable {p q : Rat} {k l : Nat}
theorem Bd.dd (hp : Bd k p) (hq : Bd l q) : ((p.den : Int) * (q.den : Int)).natAbs < 2 ^ (k + l) := mul_lt (by simpa using hp.2) (by simpa using hq.2)
theorem Bd.add (hp : Bd k p) (hq : Bd l q) : Bd (k + l + 1) (p + q) := by
  rw [add_eq]
  refine bd_divInt (dd_ne p q) (add_lt (mul_lt hp.1 (by simpa using hq.2)) ?_) (Nat.lt_trans (hp.dd hq) (Nat.pow_lt_pow_right (by decide) (Nat.lt_succ_self _)))
  rw [Nat.add_comm]
  exact mul_lt hq.1 (by simpa using hp.2)
theorem Bd.sub (hp : Bd k p) (hq : Bd l q) : Bd (k + l + 1) (p - q) := by
  rw [sub_eq]
  refine bd_divInt (dd_ne p q) (sub_lt (mul_lt hp.1 (by simpa using hq.2)) ?_) (Nat.lt_trans (hp.dd hq) (Nat.pow_lt_pow_right (by decide) (Nat.lt_succ_self _)))
  rw [Nat.add_comm]
  exact mul_lt hq.1 (by simpa using hp.2)
theorem Bd.mul (hp : Bd k p) (hq : Bd l q) : Bd (k + l) (p * q) := by
  rw [mul_eq]
  exact bd_divInt (dd_ne p q) (mul_lt hp.1 hq.1) (hp.dd hq)
theorem num_ne (h : q ≠ 0) : q.num ≠ 0 := fun e => h (Rat.num_eq_zero.mp e)
theorem dn_ne (p : Rat) (h : q ≠ 0) : ((p.den : Int) * q.num) ≠ 0 := Int.mul_ne_zero (by have := p.den_nz; omega) (num_ne h)
theorem Bd.div (hp : Bd k p) (hq : Bd l q) (h : q ≠ 0) : Bd (k + l) (p / q) := by
  rw [div_eq p q h]
  exact bd_divInt (dn_ne p h) (mul_lt hp.1 (by simpa using hq.2)) (mul_lt (by simpa using hp.2) hq.1)
theorem Bd.s1 (hp : Bd k p) (hk : k ≤ 8000) : sml p.num = true := sml_of hp.1 (by omega)
theorem Bd.s2 (hp : Bd k p) (hk : k ≤ 8000) : sml (p.den : Int) = true := sml_of (k := k) (by simpa using hp.2) (by omega)
theorem s_plus (hp : Bd k p) (hq : Bd l q) (hk : k + l ≤ 8000) (s : List Cell) : F_plus [fr p, fr q] s = .ret (.sh (fr (p + q))) s := by
  have b := hp.dd hq
  have e := s_reduced (p.num * q.den + q.num * p.den) (p.den * q.den) s (dd_ne p q) (Nat.lt_of_lt_of_le b (Nat.pow_le_pow_right (by decide) hk))
  rw [← add_eq] at e
  simp [F_plus, runF, m_plus, entry, mV, fr, hp.s1 (by omega), hp.s2 (by omega), hq.s1 (by omega), hq.s2 (by omega)]
  rw [e]
  rfl
theorem s_minus (hp : Bd k p) (hq : Bd l q) (hk : k + l ≤ 8000) (s : List Cell) : F_minus [fr p, fr q] s = .ret (.sh (fr (p - q))) s := by
  have b := hp.dd hq
  have e := s_reduced (p.num * q.den - q.num * p.den) (p.den * q.den) s (dd_ne p q) (Nat.lt_of_lt_of_le b (Nat.pow_le_pow_right (by decide) hk))
  rw [← sub_eq] at e
  simp [F_minus, runF, m_minus, entry, mV, fr, hp.s1 (by omega), hp.s2 (by omega), hq.s1 (by omega), hq.s2 (by omega)]
  rw [e]
  rfl
theorem s_times (hp : Bd k p) (hq : Bd l q) (hk : k + l ≤ 8000) (s : List Cell) : F_times [fr p, fr q] s = .ret (.sh (fr (p * q))) s := by
  have b := hp.dd hq
  have e := s_reduced (p.num * q.num) (p.den * q.den) s (dd_ne p q) (Nat.lt_of_lt_of_le b (Nat.pow_le_pow_right (by decide) hk))
  rw [← mul_eq] at e
  simp [F_times, runF, m_times, entry, mV, fr, hp.s1 (by omega), hp.s2 (by omega), hq.s1 (by omega), hq.s2 (by omega)]
  rw [e]
  rfl
end

/-! equality -/
section
variable {p q : Rat} {k l : Nat}
theorem fr_inj (h : p.num = q.num ∧ (p.den : Int) = q.den) : p = q := Rat.ext h.1 (by have := h.2; omega)
@[simp] theorem eq_fr : opEq (fr p) (fr q) = some (decide (p = q)) := by
  have e : ((p.num == q.num) && ((p.den : Int) == (q.den : Int))) = decide (p = q) := by
    by_cases h : p = q
    · subst h; simp
    · rw [decide_eq_false h]
      refine Bool.eq_false_iff.mpr fun z => h ?_
      simp only [Bool.and_eq_true, beq_iff_eq] at z
      exact fr_inj z
  simp [opEq, fr, D.py, D.pys, SeqAt.shaped, PyData.canLay0, PyData.canLayAll0, PyData.depth, PyData.depthAll, PyData.eqv, PyData.eqvAll]
  first | exact e | (rw [← e]; simp)
@[simp] theorem ne_fr : opNe (fr p) (fr q) = some (!decide (p = q)) := by simp [opNe]
@[simp] theorem eq_i {a b : Int} : opEq (.int a) (.int b) = some (decide (a = b)) := by
  simp [opEq, D.py, SeqAt.shaped, PyData.canLay0, PyData.depth, PyData.eqv]
  rfl
@[simp] theorem eq_bl {a b : Bool} : opEq (.bl a) (.bl b) = some (decide (a = b)) := by
  simp [opEq, D.py, SeqAt.shaped, PyData.canLay0, PyData.depth, PyData.eqv]
  rfl
@[simp] theorem ne_i {a b : Int} : opNe (.int a) (.int b) = some (!decide (a = b)) := by simp [opNe]
@[simp] theorem ne_bl {a b : Bool} : opNe (.bl a) (.bl b) = some (!decide (a = b)) := by simp [opNe]
@[simp] theorem ne_nil : opNe (.lst []) (.lst []) = some false := by
  simp [opNe, opEq, D.py, D.pys, SeqAt.shaped, PyData.canLay0, PyData.canLayAll0, PyData.depth, PyData.depthAll, PyData.eqv, PyData.eqvAll]
@[simp] theorem view_fr {st : State} : view st (.sh (fr q)) = some (fr q) := rfl
theorem fr01 : D.tup [.int 0, .int 1] = fr 0 := rfl
theorem fr11 : D.tup [.int 1, .int 1] = fr 1 := rfl
theorem s_over (hp : Bd k p) (hq : Bd l q) (hk : k + l ≤ 8000) (h : q ≠ 0) (s : List Cell) : F_over [fr p, fr q] s = .ret (.sh (fr (p / q))) s := by
  have b : ((p.den : Int) * q.num).natAbs < 2 ^ (k + l) := mul_lt (by simpa using hp.2) hq.1
  have e := s_reduced (p.num * q.den) (p.den * q.num) s (dn_ne p h) (Nat.lt_of_lt_of_le b (Nat.pow_le_pow_right (by decide) hk))
  rw [← div_eq p q h] at e
  simp [F_over, runF, m_over, entry, mV, fr, hp.s1 (by omega), hp.s2 (by omega), hq.s1 (by omega), hq.s2 (by omega), num_ne h]
  rw [e]
  rfl
theorem s_less (hp : Bd k p) (hq : Bd l q) (hk : k + l ≤ 8000) (s : List Cell) : F_is_less [fr p, fr q] s = .ret (.sh (.bl (decide (p < q)))) s := by
  have e : decide (p.num * q.den < q.num * p.den) = decide (p < q) := decide_eq_decide.mpr (Rat.lt_iff p q).symm
  simp [F_is_less, runF, m_is_less, entry, mV, fr, hp.s1 (by omega), hp.s2 (by omega), hq.s1 (by omega), hq.s2 (by omega)]
  exact (Rat.lt_iff p q).symm
theorem s_isint (i : Int) (s : List Cell) : F_is_integer [.int i] s = .ret (.sh (.bl true)) s := by
  have e1 : opIsi (.int i) (.val (.ty "int")) = some (.sh (.bl true)) := by simp [opIsi, opKind]; decide +kernel
  have e2 : opIsi (.int i) (.val (.ty "bool")) = some (.sh (.bl false)) := by simp [opIsi, opKind]; decide +kernel
  simp [F_is_integer, runF, m_is_integer, entry, mV, e1, e2]
theorem s_istup (a b : D) (s : List Cell) : F_is_tuple_of [.tup [a, b], .int 2] s = .ret (.sh (.bl true)) s := by
  have e1 : opIsi (.tup [a, b]) (.val (.ty "tuple")) = some (.sh (.bl true)) := by simp [opIsi, opKind]; decide +kernel
  have e2 : opLen (.tup [a, b]) = some (.sh (.int 2)) := by simp [opLen, lim]
  simp [F_is_tuple_of, runF, m_is_tuple_of, entry, mV, e1, e2]
theorem gcd1 (q : Rat) : Int.gcd q.num q.den = 1 := by
  have := q.reduced
  unfold Nat.Coprime at this
  simpa [Int.gcd] using this
theorem s_isfr (q : Rat) (s : List Cell) : F_is_fraction [fr q] s = .ret (.sh (.bl true)) s := by
  have h : 0 < q.den := q.den_pos
  simp [F_is_fraction, runF, m_is_fraction, entry, mV, fr, s_istup, s_isint, s_divisor, gcd1, h]
end
end A04

set_option Elab.async false
set_option linter.all false
set_option maxRecDepth 100000
set_option maxHeartbeats 4000000
set_option exponentiation.threshold 9000
namespace A04
open PySem PySem.Spec L2 PM
section
variable {p q a b c : Rat} {s : List Cell}
abbrev Bk (q : Rat) : Prop := Bd 2000 q
theorem p_plus (hp : Bk p) (hq : Bk q) : F_plus [fr p, fr q] s = .ret (.sh (fr (p + q))) s := s_plus hp hq (by decide) s
theorem p_minus (hp : Bk p) (hq : Bk q) : F_minus [fr p, fr q] s = .ret (.sh (fr (p - q))) s := s_minus hp hq (by decide) s
theorem p_times (hp : Bk p) (hq : Bk q) : F_times [fr p, fr q] s = .ret (.sh (fr (p * q))) s := s_times hp hq (by decide) s
theorem p_over (hp : Bk p) (hq : Bk q) (h : q ≠ 0) : F_over [fr p, fr q] s = .ret (.sh (fr (p / q))) s := s_over hp hq (by decide) h s
theorem p_less (hp : Bk p) (hq : Bk q) : F_is_less [fr p, fr q] s = .ret (.sh (.bl (decide (p < q)))) s := s_less hp hq (by decide) s
theorem s_fields (ha : Bd 120 a) (hb : Bd 120 b) (hc : Bd 120 c) : F__law_fields_right [fr a, fr b, fr c] s = .ret (.sh (.bl true)) s := by
  have a1 : Bk a := ha.mono (by decide)
  have b1 : Bk b := hb.mono (by decide)
  have c1 : Bk c := hc.mono (by decide)
  have ab : Bk (a + b) := (ha.add hb).mono (by decide)
  have bc : Bk (b + c) := (hb.add hc).mono (by decide)
  have ab' : Bk (a * b) := (ha.mul hb).mono (by decide)
  have bc' : Bk (b * c) := (hb.mul hc).mono (by decide)
  have ac' : Bk (a * c) := (ha.mul hc).mono (by decide)
  have sb : Bk (b - c) := (hb.sub hc).mono (by decide)
  have sa : Bk (a - b) := (ha.sub hb).mono (by decide)
  have z0 : Bk 0 := ⟨by decide, by decide⟩
  have z1 : Bk 1 := ⟨by decide, by decide⟩
  have ms : a * (b - c) = a * b - a * c := by grind
  have e1 := Rat.add_comm b a
  have e2 := Rat.mul_comm b a
  simp [F__law_fields_right, runF, m__law_fields_right, entry, mV, p_plus, p_times, p_minus, fr01, fr11, Rat.add_assoc, Rat.mul_assoc, Rat.mul_add, Rat.add_sub_cancel, Rat.sub_add_cancel, Rat.add_zero, Rat.mul_one, Rat.sub_self, *]
  by_cases h : b = 0
  · simp [h]
  · have dv : Bk (a / b) := (ha.div hb h).mono (by decide)
    simp [h, p_over, p_times, Rat.mul_div_cancel h, Rat.div_mul_cancel h, mV, *]
end
end A04

set_option Elab.async false
set_option linter.all false
set_option maxRecDepth 100000
set_option maxHeartbeats 4000000
set_option exponentiation.threshold 9000
namespace A04
open PySem PySem.Spec L2 PM
section
variable {p q a b c : Rat} {s : List Cell}
def lo (x y : Rat) : Rat := if y < x then y else x
def hi (x y : Rat) : Rat := if x < y then y else x
@[simp] theorem seq_tup {ds : List D} : asSeq (.tup ds) = some ds := rfl
@[simp] theorem seq_lst {ds : List D} : asSeq (.lst ds) = some ds := rfl
theorem s_least2 (ha : Bk a) (hb : Bk b) : F_least_of_2 [fr a, fr b] s = .ret (.sh (fr (lo a b))) s := by
  unfold lo
  by_cases h1 : b < a <;> simp [F_least_of_2, runF, m_least_of, entry, mV, r_fors, r_forn, p_less ha hb, p_less hb ha, h1]
theorem s_least3 (ha : Bk a) (hb : Bk b) (hc : Bk c) : F_least_of_3 [fr a, fr b, fr c] s = .ret (.sh (fr (lo (lo a b) c))) s := by
  unfold lo
  by_cases h1 : b < a <;> by_cases h2 : c < b <;> by_cases h3 : c < a <;> simp [F_least_of_3, runF, m_least_of, entry, mV, r_fors, r_forn, p_less ha hb, p_less hb ha, p_less hc ha, p_less hc hb, h1, h2, h3]
theorem s_great3 (ha : Bk a) (hb : Bk b) (hc : Bk c) : F_greatest_of_3 [fr a, fr b, fr c] s = .ret (.sh (fr (hi (hi a b) c))) s := by
  unfold hi
  by_cases h1 : a < b <;> by_cases h2 : b < c <;> by_cases h3 : a < c <;> simp [F_greatest_of_3, runF, m_greatest_of, entry, mV, r_fors, r_forn, p_less ha hb, p_less ha hc, p_less hb hc, h1, h2, h3]
theorem lo_le (a b c : Rat) : ¬ a < lo (lo a b) c ∧ ¬ b < lo (lo a b) c ∧ ¬ c < lo (lo a b) c ∧ (lo (lo a b) c = a ∨ lo (lo a b) c = b ∨ lo (lo a b) c = c) := by
  unfold lo
  grind
theorem hi_le (a b c : Rat) : ¬ hi (hi a b) c < a ∧ ¬ hi (hi a b) c < b ∧ ¬ hi (hi a b) c < c ∧ (hi (hi a b) c = a ∨ hi (hi a b) c = b ∨ hi (hi a b) c = c) := by
  unfold hi
  grind
theorem cnt3 (x y z : Bool) : opCnt (.lst [.bl x, .bl y, .bl z]) (.bl true) = some (.sh (.int ((if x then 1 else 0) + (if y then 1 else 0) + (if z then 1 else 0)))) := by
  cases x <;> cases y <;> cases z <;> rfl
abbrev pf (q : Rat) : PyData := .tuple [.int q.num, .int (q.den : Int)]
theorem eqv_fr (x y : Rat) : PyData.eqv (pf x) (pf y) = decide (x = y) := by
  have e : PyData.eqv (pf x) (pf y) = ((x.num == y.num) && (((x.den : Int) == (y.den : Int)) && true)) := by
    simp only [pf, PyData.eqv, PyData.eqvAll]
  rw [e, Bool.and_true]
  by_cases h : x = y
  · subst h; simp
  · rw [decide_eq_false h]
    refine Bool.eq_false_iff.mpr fun z => h ?_
    simp only [Bool.and_eq_true, beq_iff_eq] at z
    exact fr_inj z
theorem sh_fr (x : Rat) : SeqAt.shaped (pf x) = true := by simp [SeqAt.shaped, PyData.canLay0, PyData.canLayAll0, PyData.depth, PyData.depthAll]
theorem sh_fr3 (a b c : Rat) : SeqAt.shaped (.tuple [pf a, pf b, pf c]) = true := by simp [SeqAt.shaped, PyData.canLay0, PyData.canLayAll0, PyData.depth, PyData.depthAll]
theorem in_fr3 (p a b c : Rat) : opIn (fr p) (.tup [fr a, fr b, fr c]) = some (decide (a = p) || (decide (b = p) || decide (c = p))) := by
  have i : opIn (fr p) (.tup [fr a, fr b, fr c]) = if SeqAt.shaped (pf p) && SeqAt.shaped (.tuple [pf a, pf b, pf c]) then some (PyData.eqv (pf a) (pf p) || (PyData.eqv (pf b) (pf p) || (PyData.eqv (pf c) (pf p) || false))) else none := rfl
  rw [i, sh_fr, sh_fr3, eqv_fr, eqv_fr, eqv_fr, Bool.or_false]
  rfl
theorem s_order (ha : Bd 120 a) (hb : Bd 120 b) (hc : Bd 120 c) : F__law_order_right [fr a, fr b, fr c] s = .ret (.sh (.bl true)) s := by
  have a1 : Bk a := ha.mono (by decide)
  have b1 : Bk b := hb.mono (by decide)
  have c1 : Bk c := hc.mono (by decide)
  have ac : Bk (a + c) := (ha.add hc).mono (by decide)
  have bc : Bk (b + c) := (hb.add hc).mono (by decide)
  have ac' : Bk (a * c) := (ha.mul hc).mono (by decide)
  have bc' : Bk (b * c) := (hb.mul hc).mono (by decide)
  have sb : Bk (b - a) := (hb.sub ha).mono (by decide)
  have z0 : Bk 0 := ⟨by decide, by decide⟩
  have z1 : Bk 1 := ⟨by decide, by decide⟩
  obtain ⟨l1, l2, l3, l4⟩ := lo_le a b c
  obtain ⟨g1, g2, g3, g4⟩ := hi_le a b c
  have bl : Bk (lo (lo a b) c) := by rcases l4 with h | h | h <;> rw [h] <;> assumption
  have bg : Bk (hi (hi a b) c) := by rcases g4 with h | h | h <;> rw [h] <;> assumption
  have t1 : (if a < b then (1 : Int) else 0) + (if a = b then 1 else 0) + (if b < a then 1 else 0) = 1 := by grind
  have t2 : 0 < b - a ↔ a < b := (Rat.lt_iff_sub_pos a b).symm
  have t3 : 0 < c → (a * c < b * c ↔ a < b) := fun h => Rat.mul_lt_mul_right h
  have t4 : a < b → b < c → a < c := by grind
  have t5 : ¬ a < a := Rat.lt_irrefl
  have wf : ∀ d ∈ [fr a, fr b, fr c], ∃ q, d = fr q ∧ Bk q ∧ ¬ q < lo (lo a b) c ∧ ¬ hi (hi a b) c < q := by
    intro d hd
    simp only [List.mem_cons, List.not_mem_nil, or_false] at hd
    rcases hd with rfl | rfl | rfl
    · exact ⟨a, rfl, a1, l1, g1⟩
    · exact ⟨b, rfl, b1, l2, g2⟩
    · exact ⟨c, rfl, c1, l3, g3⟩
  have hco : kCo [5] (gN 5) (mOr (mB (mCall 2 F_is_less (mCons (mV 5) (mCons (mV 3) mNil)))) (mB (mCall 2 F_is_less (mCons (mV 4) (mCons (mV 5) mNil))))) (mV 5) [fr a, fr b, fr c]
      ⟨[.sh (fr a), .sh (fr b), .sh (fr c), .sh (fr (lo (lo a b) c)), .sh (fr (hi (hi a b) c)), .un], s⟩ = .ok (.ow (.ls [])) ⟨[.sh (fr a), .sh (fr b), .sh (fr c), .sh (fr (lo (lo a b) c)), .sh (fr (hi (hi a b) c)), .un], s⟩ := by
    rw [comp_none (by simp [lim]) (by simp)]
    · simp
    · intro d hd
      obtain ⟨q, rfl, q1, q2, q3⟩ := wf d hd
      exact ⟨_, ⟨[.sh (fr a), .sh (fr b), .sh (fr c), .sh (fr (lo (lo a b) c)), .sh (fr (hi (hi a b) c)), .sh (fr q)], s⟩, rfl, by simp [mV, p_less q1 bl, p_less bg q1, q2, q3], by simp⟩
  have m1 : (decide (a = lo (lo a b) c) || (decide (b = lo (lo a b) c) || decide (c = lo (lo a b) c))) = true := by
    rcases l4 with h | h | h <;> rw [h] <;> simp
  have m2 : (decide (a = hi (hi a b) c) || (decide (b = hi (hi a b) c) || decide (c = hi (hi a b) c))) = true := by
    rcases g4 with h | h | h <;> rw [h] <;> simp
  have i1 := (in_fr3 (lo (lo a b) c) a b c).trans (congrArg some m1)
  have i2 := (in_fr3 (hi (hi a b) c) a b c).trans (congrArg some m2)
  clear l1 l2 l3 l4 g1 g2 g3 g4 m1 m2 wf
  have t6 : a + c < b + c ↔ a < b := Rat.add_lt_add_right
  have s3 := s_least3 (s := s) a1 b1 c1
  have s4 := s_great3 (s := s) a1 b1 c1
  generalize lo (lo a b) c = L at *
  generalize hi (hi a b) c = G at *
  have ab0 := p_less (s := s) a1 b1
  have ba0 := p_less (s := s) b1 a1
  have aa0 := p_less (s := s) a1 a1
  have bc0 := p_less (s := s) b1 c1
  have ac0 := p_less (s := s) a1 c1
  have zc0 := p_less (s := s) z0 c1
  have pa := p_plus (s := s) a1 c1
  have pb := p_plus (s := s) b1 c1
  have pl := p_less (s := s) ac bc
  have mn := p_minus (s := s) b1 a1
  have zl := p_less (s := s) z0 sb
  have ta := p_times (s := s) a1 c1
  have tb := p_times (s := s) b1 c1
  have tl := p_less (s := s) ac' bc'
  have tri : ∃ e : Bool, opEq (fr a) (fr b) = some e ∧ ((a < b ∧ e = false ∧ ¬ b < a) ∨ (¬ a < b ∧ e = true ∧ ¬ b < a) ∨ (¬ a < b ∧ e = false ∧ b < a)) := ⟨_, eq_fr, by
    have : (a < b ∧ a ≠ b ∧ ¬ b < a) ∨ (¬ a < b ∧ a = b ∧ ¬ b < a) ∨ (¬ a < b ∧ a ≠ b ∧ b < a) := by grind
    simpa using this⟩
  obtain ⟨e, he, tri⟩ := tri
  clear t1
  have go : ∀ P : Prop, (a < b → ¬ b < a → opEq (fr a) (fr b) = some false → P) → (¬ a < b → ¬ b < a → opEq (fr a) (fr b) = some true → P) → (¬ a < b → b < a → opEq (fr a) (fr b) = some false → P) → P := fun P x y z => by
    rcases tri with ⟨h1, rfl, h2⟩ | ⟨h1, rfl, h2⟩ | ⟨h1, rfl, h2⟩
    · exact x h1 h2 he
    · exact y h1 h2 he
    · exact z h1 h2 he
  clear he tri
  have go2 : ∀ P : Prop, (0 < c → (a * c < b * c ↔ a < b) → P) → (¬ 0 < c → P) → P := fun P x y => by
    by_cases h : 0 < c
    · exact x h (t3 h)
    · exact y h
  have go3 : ∀ P : Prop, (a < b → b < c → a < c → P) → (a < b → ¬ b < c → P) → (¬ a < b → P) → P := fun P x y z => by
    by_cases h : a < b
    · by_cases h2 : b < c
      · exact x h h2 (t4 h h2)
      · exact y h h2
    · exact z h
  clear t3 t4
  refine go2 _ (fun h1 h2 => ?_) (fun h1 => ?_) <;> refine go _ (fun h3 h4 h5 => ?_) (fun h3 h4 h5 => ?_) (fun h3 h4 h5 => ?_) <;> refine go3 _ (fun h6 h7 h8 => ?_) (fun h6 h7 => ?_) (fun h6 => ?_) <;> clear go go2 go3 <;> first
    | exact absurd h3 h6
    | exact absurd h6 h3
    | simp [-eq_fr, F__law_order_right, runF, m__law_order_right, entry, mV, fr01, cnt3, *]
end
end A04

set_option Elab.async false
set_option linter.all false
set_option maxRecDepth 100000
set_option maxHeartbeats 4000000
set_option exponentiation.threshold 9000
namespace A04
open PySem PySem.Spec L2 PM
section
variable {s : List Cell}
theorem pow_lt_log {n k : Nat} (h : n < 10 ^ k) (hk : k ≤ 570) : n.log2 < 1920 := by
  by_cases h0 : n = 0
  · rw [h0]; decide
  · refine (Nat.log2_lt h0).mpr (Nat.lt_of_lt_of_le h ?_)
    calc 10 ^ k ≤ 10 ^ 570 := Nat.pow_le_pow_right (by decide) hk
      _ ≤ 2 ^ 1920 := by decide +kernel
/-- the digits in pieces of sixty -/
theorem digits_loop (x : D) {WT : Nat} (hWT : WT = 10 ^ 60) : ∀ (n left : Nat) (f : List Nat), left < n → left < 10 ^ 5000 → f.length + (TL.numL left).length ≤ 10000 → ∃ left' f', left' < WT ∧ TL.numL left' ++ f' = TL.numL left ++ f ∧
    mWhileN n (mCmp opGe (mV 1) (mL (.int ((WT : Nat) : Int)))) (mSeq (mSet 2 (mOp opAdd (mS1 opZf (mUn opStr (mOp opMod (mV 1) (mL (.int ((WT : Nat) : Int))))) (mL (.int 60))) (mV 2)))
  (mSet 1 (mOp opFdv (mV 1) (mL (.int ((WT : Nat) : Int))))))
      ⟨[x, .int left, .str (tx f)].map .sh, s⟩ = .nx ⟨[x, .int left', .str (tx f')].map .sh, s⟩
  | 0, _, _, h, _, _ => absurd h (Nat.not_lt_zero _)
  | n + 1, left, f, h, hb, hl => by
    by_cases c : left < WT
    · refine ⟨left, f, c, rfl, ?_⟩
      have c2 : ¬ ((WT : Nat) : Int) ≤ (left : Int) := by omega
      rw [r_whiles]
      simp [mV, c2]
    · have hW : 0 < WT := by rw [hWT]; decide
      have c2 : ((WT : Nat) : Int) ≤ (left : Int) := by omega
      have hW2 : (0 : Int) < ((WT : Nat) : Int) := by omega
      have hr : left % WT < 10 ^ 60 := by have := Nat.mod_lt left hW; omega
      have hq : 0 < left / WT := Nat.div_pos (by omega) hW
      have hlt : left / WT < left := Nat.div_lt_self (by omega) (by rw [hWT]; decide)
      have sp := numL_split (q := left / WT) (r := left % WT) (k := 60) hq (by decide) hr
      have e0 : left / WT * 10 ^ 60 + left % WT = left := by rw [← hWT]; exact Nat.div_add_mod' left WT
      rw [e0] at sp
      have pl : (padL 60 (TL.numL (left % WT))).length = 60 := padL_len (TL.numL_len (by decide) hr)
      have hl2 : (padL 60 (TL.numL (left % WT)) ++ f).length + (TL.numL (left / WT)).length ≤ 10000 := by
        rw [sp] at hl
        rw [List.length_append] at hl ⊢
        omega
      obtain ⟨left', f', g1, g2, g3⟩ := digits_loop x hWT n (left / WT) (padL 60 (TL.numL (left % WT)) ++ f) (by omega) (by omega) hl2
      refine ⟨left', f', g1, by rw [g2, sp, List.append_assoc], ?_⟩
      have em : ((left : Int) % ((WT : Nat) : Int)) = ((left % WT : Nat) : Int) := (Int.natCast_emod left WT).symm
      have ed : ((left : Int) / ((WT : Nat) : Int)) = ((left / WT : Nat) : Int) := (Int.natCast_ediv left WT).symm
      have o1 : opMod (.int (left : Int)) (.int ((WT : Nat) : Int)) = some (.sh (.int ((left % WT : Nat) : Int))) := by rw [opMod_i hW2, em]
      have o2 : opStr (.int ((left % WT : Nat) : Int)) = some (.sh (.str (tx (TL.numL (left % WT))))) := opStr_n (pow_lt_log hr (by decide))
      have o3 : opZf (.str (tx (TL.numL (left % WT)))) (.int 60) = some (.sh (.str (tx (padL 60 (TL.numL (left % WT)))))) := by
        have z := zfill_tx (TL.numL_digits (left % WT)) (k := 60) (TL.numL_len (by decide) hr)
        have hp : PadOk 60 = true := by decide
        show (if PadOk 60 then some (RV.sh (.str (Txt.zfill (tx (TL.numL (left % WT))) 60))) else none) = _
        rw [if_pos hp]
        exact congrArg (fun y => some (RV.sh (.str y))) z
      have o4 : opAdd (.str (tx (padL 60 (TL.numL (left % WT))))) (.str (tx f)) = some (.sh (.str (tx (padL 60 (TL.numL (left % WT)) ++ f)))) := opAdd_tx (by rw [pl]; simp [lim]; omega)
      have o5 : opFdv (.int (left : Int)) (.int ((WT : Nat) : Int)) = some (.sh (.int ((left / WT : Nat) : Int))) := by
        rw [opFdv_i hW2 (by rw [hWT]; decide +kernel), ed]
      rw [r_whiles]
      generalize left % WT = r at *
      generalize left / WT = q at *
      simp [mV, c2, o1, o2, o3, o4, o5]
      exact g3
def numT (n : Int) : List Nat := (if n < 0 then [45] else []) ++ TL.numL n.natAbs
theorem numT_len {n : Int} {k : Nat} (hk : 0 < k) (h : n.natAbs < 10 ^ k) : (numT n).length ≤ k + 1 := by
  unfold numT
  have := TL.numL_len hk h
  rw [List.length_append]
  split
  · show 1 + _ ≤ _; omega
  · show 0 + _ ≤ _; omega
theorem s_digits (n : Int) (h : n.natAbs < 10 ^ 5000) : F_digits_of [.int n] s = .ret (.sh (.str (tx (numT n)))) s := by
  obtain ⟨W, hW⟩ : ∃ W : Nat, W = 10 ^ 60 := ⟨_, rfl⟩
  have e : (1000000000000000000000000000000000000000000000000000000000000 : Int) = ((W : Nat) : Int) := by rw [hW]; decide +kernel
  have hlen := TL.numL_len (n := n.natAbs) (k := 5000) (by decide) h
  obtain ⟨left', f', g1, g2, g3⟩ := digits_loop (s := s) (.int n) hW (n.natAbs + 1) n.natAbs [] (Nat.lt_succ_self _) h (by rw [List.length_nil]; omega)
  rw [List.append_nil] at g2
  have o2 : opStr (.int ((left' : Nat) : Int)) = some (.sh (.str (tx (TL.numL left')))) := opStr_n (pow_lt_log (k := 60) (by omega) (by decide))
  have l2 : (TL.numL left').length + f'.length ≤ 5000 := by rw [← List.length_append, g2]; exact hlen
  have e2 : Str.ofString "" = tx [] := rfl
  have e3 : Str.ofString "-" = tx [45] := rfl
  have g3' : mWhileN (n.natAbs + 1) (mCmp opGe (mV 1) (mL (.int ((W : Nat) : Int)))) (mSeq (mSet 2 (mOp opAdd (mS1 opZf (mUn opStr (mOp opMod (mV 1) (mL (.int ((W : Nat) : Int))))) (mL (.int 60))) (mV 2)))
    (mSet 1 (mOp opFdv (mV 1) (mL (.int ((W : Nat) : Int)))))) ⟨[.sh (.int n), .sh (.int (n.natAbs : Int)), .sh (.str (tx []))], s⟩ = .nx ⟨[.sh (.int n), .sh (.int (left' : Int)), .sh (.str (tx f'))], s⟩ := g3
  unfold F_digits_of m_digits_of
  rw [e]
  by_cases hn : n < 0
  · have a1 : opAdd (.str (tx [45])) (.str (tx (TL.numL left'))) = some (.sh (.str (tx ([45] ++ TL.numL left')))) := opAdd_tx (by simp [lim]; omega)
    have a2 : opAdd (.str (tx ([45] ++ TL.numL left'))) (.str (tx f')) = some (.sh (.str (tx (([45] ++ TL.numL left') ++ f')))) := opAdd_tx (by simp [lim]; omega)
    have fin : ([45] ++ TL.numL left') ++ f' = numT n := by rw [List.append_assoc, g2]; simp [numT, hn]
    rw [fin] at a2
    simp only [List.cons_append, List.nil_append] at a1 a2
    simp [runF, entry, mV, natAt, e2, e3, g3', hn, o2, a1, a2]
  · have a1 : opAdd (.str (tx [])) (.str (tx (TL.numL left'))) = some (.sh (.str (tx (TL.numL left')))) := opAdd_tx (by simp [lim]; omega)
    have a2 : opAdd (.str (tx (TL.numL left'))) (.str (tx f')) = some (.sh (.str (tx (TL.numL left' ++ f')))) := opAdd_tx (by simp [lim]; omega)
    have fin : TL.numL left' ++ f' = numT n := by rw [g2]; simp [numT, hn]
    rw [fin] at a2
    simp [runF, entry, mV, natAt, e2, e3, g3', hn, o2, a1, a2]
def txtL (q : Rat) : List Nat := if q.den = 1 then numT q.num else numT q.num ++ 47 :: numT q.den
theorem two_ten {n k : Nat} (h : n < 2 ^ k) (hk : k ≤ 16000) : n < 10 ^ 5000 := by
  refine Nat.lt_of_lt_of_le h ?_
  calc 2 ^ k ≤ 2 ^ 16000 := Nat.pow_le_pow_right (by decide) hk
    _ ≤ 10 ^ 5000 := by decide +kernel
theorem s_text {q : Rat} {k : Nat} (h : Bd k q) (hk : k ≤ 16000) : F_text_of [fr q] s = .ret (.sh (.str (tx (txtL q)))) s := by
  have n1 := two_ten h.1 hk
  have n2 := two_ten h.2 hk
  have d1 := s_digits (s := s) q.num n1
  have d2 := s_digits (s := s) (q.den : Int) (by simpa using n2)
  have l1 := numT_len (n := q.num) (k := 5000) (by decide) n1
  have l2 := numT_len (n := (q.den : Int)) (k := 5000) (by decide) (by simpa using n2)
  have e3 : Str.ofString "/" = tx [47] := rfl
  have e4 : Str.empty = tx [] := rfl
  unfold F_text_of m_text_of txtL
  by_cases hd : q.den = 1
  · simp [runF, entry, mV, fr, hd, d1]
  · have hd2 : ¬ ((q.den : Int) = 1) := by omega
    have f1 : opFmt (.str (tx (numT q.num))) = some (.sh (.str (tx (numT q.num)))) := by simp [opFmt, lim]; omega
    have f2 : opFmt (.str (tx (numT q.den))) = some (.sh (.str (tx (numT q.den)))) := by simp [opFmt, lim]; omega
    have j1 : ∀ ms st, kJ ms (tx []) (.sh (.str (tx (numT q.num)))) st = mJs ms (tx (numT q.num)) st := fun ms st => by rw [kJ_e (by simp [lim]; omega), tx_cat]; rfl
    have j2 : ∀ ms st, kJ ms (tx (numT q.num)) (.sh (.str (tx [47]))) st = mJs ms (tx (numT q.num ++ [47])) st := fun ms st => by rw [kJ_e (by simp [lim]; omega), tx_cat]
    have j3 : ∀ ms st, kJ ms (tx (numT q.num ++ [47])) (.sh (.str (tx (numT q.den)))) st = mJs ms (tx (numT q.num ++ [47] ++ numT q.den)) st := fun ms st => by rw [kJ_e (by simp [lim]; omega), tx_cat]
    simp only [List.append_assoc, List.cons_append, List.nil_append] at j2 j3
    simp [runF, entry, mV, fr, hd, hd2, d1, d2, e3, e4, f1, f2, j1, j2, j3]
end
end A04

set_option Elab.async false
set_option linter.all false
set_option maxRecDepth 100000
set_option maxHeartbeats 4000000
set_option exponentiation.threshold 20000
namespace A04
open PySem PySem.Spec L2 PM
section
variable {s : List Cell}
theorem r_rg3 {st st1 st2 st3 : State} {a b c : M RV} {i j k : Int} (ha : a st = .ok (.sh (.int i)) st1) (hb : b st1 = .ok (.sh (.int j)) st2) (hc : c st2 = .ok (.sh (.int k)) st3) (h : k ≠ 0 ∧ k.natAbs < 1073741824 ∧ Builtin.Range.small i j k = true ∧ 0 ≤ Builtin.Range.rangeSize i j k) :
    mRg3 a b c st = .ok (rngC i k (Builtin.Range.rangeSize i j k).toNat) st3 := by
  simp only [mRg3, M.bind, ha, hb, hc, asI, if_pos h]
  rfl
theorem rngC_succ (lo c : Int) (n : Nat) : rngC lo c (n + 1) = .int lo :: rngC (lo + c) c n := by
  unfold rngC
  rw [List.range_succ_eq_map, List.map_cons, List.map_map]
  simp only [Int.natCast_zero, Int.zero_mul, Int.add_zero, List.cons.injEq, true_and]
  refine List.map_congr_left fun k _ => ?_
  simp only [Function.comp_apply, Nat.succ_eq_add_one, Int.natCast_add, Int.natCast_one]
  congr 1
  rw [Int.add_mul]
  omega
theorem dv_lt : ∀ (l : List Nat), NumText.AllDigits l → NumText.digitsVal l < 10 ^ l.length := by
  suffices h : ∀ b : List Nat, NumText.AllDigits b.reverse → NumText.digitsVal b.reverse < 10 ^ b.reverse.length from fun l hl => by
    have := h l.reverse (by rwa [List.reverse_reverse])
    rwa [List.reverse_reverse] at this
  intro b
  induction b with
  | nil => intro _; decide
  | cons c b ih =>
    intro h
    rw [List.reverse_cons] at h ⊢
    have h1 := ih fun d hd => h d (List.mem_append_left _ hd)
    have h2 := h c (List.mem_append_right _ (List.mem_singleton.mpr rfl))
    rw [dv_snoc, List.length_append, List.length_singleton, Nat.pow_succ]
    omega
theorem number_loop {l : List Nat} (hd : NumText.AllDigits l) (hl : l.length ≤ 6000) {W : Nat} (hW : W = 10 ^ 60) (x : D) : ∀ (n j : Nat) (y : Slot), l.length = j + 60 * n → ∃ y',
    mForL (gN 3) (mSet 2 (mOp opAdd (mOp opMul (mV 2) (mL (.int ((W : Nat) : Int)))) (mUn opInt (mSl (mV 0) (mPt (mV 3)) (mPt (mOp opAdd (mV 3) (mL (.int 60)))))))) (rngC (j : Int) 60 n)
      ⟨[.sh (.str (tx l)), .sh x, .sh (.int ((NumText.digitsVal (l.take j) : Nat) : Int)), y], s⟩ = .nx ⟨[.sh (.str (tx l)), .sh x, .sh (.int ((NumText.digitsVal l : Nat) : Int)), y'], s⟩
  | 0, j, y, h => by
    refine ⟨y, ?_⟩
    rw [List.take_of_length_le (by omega)]
    rfl
  | n + 1, j, y, h => by
    have e1 : ((j : Int) + 60) = ((j + 60 : Nat) : Int) := by omega
    obtain ⟨y', ih⟩ := number_loop hd hl hW x n (j + 60) (.sh (.int (j : Int))) (by omega)
    refine ⟨y', ?_⟩
    rw [rngC_succ, r_fors, e1]
    have hc : (l.drop j).take 60 = cut l (some (j : Int)) (some ((j + 60 : Nat) : Int)) := (cut_mid l j 60 (by omega)).symm
    have hlen : ((l.drop j).take 60).length = 60 := by rw [List.length_take, List.length_drop]; omega
    have hne : (l.drop j).take 60 ≠ [] := fun z => by rw [z] at hlen; cases hlen
    have hdd : NumText.AllDigits ((l.drop j).take 60) := fun c hc => hd c (List.mem_of_mem_drop (List.mem_of_mem_take hc))
    have hdt : NumText.AllDigits (l.take j) := fun c hc => hd c (List.mem_of_mem_take hc)
    have o1 : opSl (.str (tx l)) (some (j : Int)) (some ((j + 60 : Nat) : Int)) = some (.sh (.str (tx ((l.drop j).take 60)))) := by
      rw [opSl_tx (by simp only [lim]; omega), ← hc]
    have o2 := opInt_tx hdd hne (by omega)
    have hs : sml ((NumText.digitsVal (l.take j) : Nat) : Int) = true := by
      have h1 := dv_lt _ hdt
      refine sml_of (k := 24000) ?_ (by decide)
      rw [Int.natAbs_natCast]
      refine Nat.lt_of_lt_of_le h1 ?_
      rw [List.length_take]
      calc 10 ^ min j l.length ≤ 10 ^ 6000 := Nat.pow_le_pow_right (by decide) (by omega)
        _ ≤ 2 ^ 24000 := by decide +kernel
    have hs2 : sml ((W : Nat) : Int) = true := by rw [hW]; decide +kernel
    have o3 := opMul_i (i := ((NumText.digitsVal (l.take j) : Nat) : Int)) (j := ((W : Nat) : Int)) hs hs2
    have val : ((NumText.digitsVal (l.take j) : Nat) : Int) * ((W : Nat) : Int) + ((NumText.digitsVal ((l.drop j).take 60) : Nat) : Int) = ((NumText.digitsVal (l.take (j + 60)) : Nat) : Int) := by
      rw [List.take_add, dv_app, hlen, hW]
      simp
    rw [← val] at ih
    generalize NumText.digitsVal (l.take j) = u at *
    generalize NumText.digitsVal ((l.drop j).take 60) = v at *
    have a1 : opAdd (.int (j : Int)) (.int 60) = some (.sh (.int ((j + 60 : Nat) : Int))) := by rw [← e1]; rfl
    generalize ((j + 60 : Nat) : Int) = j2 at *
    simp [mV, a1, o1, o2, o3]
    exact ih
theorem rs_eq (j n : Nat) (h : n < 100000) (hj : j < 60) : Builtin.Range.rangeSize (j : Int) ((j + 60 * n : Nat) : Int) 60 = (n : Int) := by
  unfold Builtin.Range.rangeSize
  rw [if_pos (by decide)]
  by_cases h0 : n = 0
  · subst h0
    rw [if_neg (by omega)]
    rfl
  · rw [if_pos (by omega)]
    omega
theorem sm_ok (i j : Nat) (hi : i < 100000) (hj : j < 100000) : Builtin.Range.small (i : Int) (j : Int) 60 = true := by
  have f : ∀ k : Int, -1000000 < k → k < 1000000 → Builtin.Range.rangeFitsLong k = true := fun k h1 h2 => by
    have e : (2 ^ 63 : Int) = 9223372036854775808 := by decide
    have g1 : -(2 ^ 63 : Int) ≤ k := by omega
    have g2 : k < (2 ^ 63 : Int) := by omega
    unfold Builtin.Range.rangeFitsLong
    rw [decide_eq_true g1, decide_eq_true g2]
    rfl
  have rs : -1000000 < Builtin.Range.rangeSize (i : Int) (j : Int) 60 ∧ Builtin.Range.rangeSize (i : Int) (j : Int) 60 < 100000 := by
    unfold Builtin.Range.rangeSize
    rw [if_pos (by decide)]
    split <;> omega
  unfold Builtin.Range.small
  rw [f _ (by omega) (by omega), f _ (by omega) (by omega), f 60 (by omega) (by omega), f _ rs.1 (by omega), if_pos (by decide), f _ (by omega) (by omega)]
  simp
theorem s_number_of {l : List Nat} (hd : NumText.AllDigits l) (hl : l.length ≤ 6000) : F_number_of [.str (tx l)] s = .ret (.sh (.int ((NumText.digitsVal l : Nat) : Int))) s := by
  obtain ⟨W, hW⟩ : ∃ W : Nat, W = 10 ^ 60 := ⟨_, rfl⟩
  have e : (1000000000000000000000000000000000000000000000000000000000000 : Int) = ((W : Nat) : Int) := by rw [hW]; decide +kernel
  obtain ⟨j, n, hj, hn⟩ : ∃ j n : Nat, j < 60 ∧ l.length = j + 60 * n := ⟨l.length % 60, l.length / 60, Nat.mod_lt _ (by decide), (Nat.mod_add_div l.length 60).symm⟩
  obtain ⟨y', loop⟩ := number_loop (s := s) hd hl hW (.int (j : Int)) n j .un hn
  have o1 : opLen (.str (tx l)) = some (.sh (.int (l.length : Nat))) := opLen_tx (by simp only [lim]; omega)
  have o2 : opMod (.int (l.length : Nat)) (.int 60) = some (.sh (.int (j : Int))) := by
    rw [opMod_i (by decide)]
    have : ((l.length : Int) % 60) = (j : Int) := by omega
    rw [this]
  have o3 : opSl (.str (tx l)) none (some (j : Int)) = some (.sh (.str (tx (l.take j)))) := by
    rw [opSl_tx (by simp only [lim]; omega), cut_to]
  have e0 : Str.ofString "0" = tx [48] := rfl
  have lt : (l.take j).length ≤ j := by rw [List.length_take]; omega
  have o4 : opAdd (.str (tx [48])) (.str (tx (l.take j))) = some (.sh (.str (tx (48 :: l.take j)))) := opAdd_tx (by simp only [lim, List.length_singleton]; omega)
  have hdt : NumText.AllDigits (48 :: l.take j) := fun c hc => (List.mem_cons.mp hc).elim (fun z => by subst z; decide) fun z => hd c (List.mem_of_mem_take z)
  have o5 : opInt (.str (tx (48 :: l.take j))) = some (.sh (.int ((NumText.digitsVal (l.take j) : Nat) : Int))) := by
    rw [opInt_tx hdt (List.cons_ne_nil _ _) (by rw [List.length_cons]; omega)]
    rfl
  have rs := rs_eq j n (by omega) hj
  rw [← hn] at rs
  have rg : ∀ (st : State), st = ⟨[.sh (.str (tx l)), .sh (.int (j : Int)), .sh (.int ((NumText.digitsVal (l.take j) : Nat) : Int)), .un], s⟩ → mRg3 (mV 1) (mUn opLen (mV 0)) (mL (.int 60)) st = .ok (rngC (j : Int) 60 n) st := fun st h => by
    subst h
    have := r_rg3 (a := mV 1) (b := mUn opLen (mV 0)) (c := mL (.int 60)) (st := ⟨[.sh (.str (tx l)), .sh (.int (j : Int)), .sh (.int ((NumText.digitsVal (l.take j) : Nat) : Int)), .un], s⟩) (st1 := ⟨[.sh (.str (tx l)), .sh (.int (j : Int)), .sh (.int ((NumText.digitsVal (l.take j) : Nat) : Int)), .un], s⟩)
      (st2 := ⟨[.sh (.str (tx l)), .sh (.int (j : Int)), .sh (.int ((NumText.digitsVal (l.take j) : Nat) : Int)), .un], s⟩) (st3 := ⟨[.sh (.str (tx l)), .sh (.int (j : Int)), .sh (.int ((NumText.digitsVal (l.take j) : Nat) : Int)), .un], s⟩) (i := (j : Int)) (j := (l.length : Int)) (k := 60) (by simp [mV]) (by simp [mV, o1]) rfl
      ⟨by decide, by decide, sm_ok _ _ (by omega) (by omega), by rw [rs]; omega⟩
    rw [rs, Int.toNat_natCast] at this
    exact this
  unfold F_number_of m_number_of
  rw [e]
  simp [runF, entry, mV, o1, o2, o3, o4, o5, e0, rg, loop]
end
end A04

set_option Elab.async false
set_option linter.all false
set_option maxRecDepth 100000
set_option maxHeartbeats 4000000
set_option exponentiation.threshold 20000
namespace A04
open PySem PySem.Spec L2 PM
section
variable {s : List Cell}
@[simp] theorem r_itS {st : State} {a : M RV} {z : Str} (h : a st = .ok (.sh (.str z)) st) : mItS a st = .ok (signs z) st := by
  show M.bind a _ st = _
  rw [r_bind, h]
  rfl
@[simp] theorem bd_frz {r : RV} {st : State} : (Out.ok r st).bd RV.frz = RV.frz r st := rfl
theorem ok_dig {l : List Nat} (h : NumText.AllDigits l) : PyData.strOk (tx l) = true := by
  show (l.toArray).all (· < 0x110000) = true
  rw [← Array.all_toList, List.all_eq_true]
  intro c hc
  have := h c (by simpa using hc)
  exact decide_eq_true (by omega)
theorem ok_small {l : List Nat} (h : ∀ c ∈ l, c < 200) : PyData.strOk (tx l) = true := by
  show (l.toArray).all (· < 0x110000) = true
  rw [← Array.all_toList, List.all_eq_true]
  intro c hc
  have := h c (by simpa using hc)
  exact decide_eq_true (by omega)
theorem e_dash : Str.ofString "-" = tx [45] := rfl
theorem e_nil : Str.ofString "" = tx [] := rfl
theorem e_0 : Str.ofString "0" = tx [48] := rfl
theorem e_digs : (Str.ofString "0123456789").cps.toList = [48, 49, 50, 51, 52, 53, 54, 55, 56, 57] := by decide +kernel
theorem in_digs {c : Nat} (h : 48 ≤ c ∧ c ≤ 57) : opIn (.str ⟨#[c]⟩) (.str (Str.ofString "0123456789")) = some true := by
  have hm : c ∈ (Str.ofString "0123456789").cps.toList := by
    rw [e_digs]
    have : c = 48 ∨ c = 49 ∨ c = 50 ∨ c = 51 ∨ c = 52 ∨ c = 53 ∨ c = 54 ∨ c = 55 ∨ c = 56 ∨ c = 57 := by omega
    simpa using this
  simp only [opIn]
  rw [dif_pos (by rfl)]
  exact congrArg some (decide_eq_true hm)
/-- all the signs are digits -/
theorem all_digs {l : List Nat} (hd : NumText.AllDigits l) (hl : l.length ≤ 7000) (w : D) :
    kCo [2] (gN 2) mYes (mBl (mCmp opIn (mV 2) (mL (.str (Str.ofString "0123456789"))))) (signs (tx l)) ⟨[.sh w, .sh (.str (tx l)), .un], s⟩ = .ok (.ow (.ls (l.map fun _ => .bl true))) ⟨[.sh w, .sh (.str (tx l)), .un], s⟩ := by
  rw [comp_filter (fun _ => true) (fun _ => .bl true) (by simp [signs, lim]; omega) ?_ (by simp)]
  · rw [List.filter_eq_self.mpr (fun _ _ => rfl)]
    simp [signs]
  · intro d hdm
    obtain ⟨c, hc, rfl⟩ := List.mem_map.mp hdm
    have hc2 : c ∈ l := hc
    refine ⟨_, ⟨[.sh w, .sh (.str (tx l)), .sh (.str ⟨#[c]⟩)], s⟩, rfl, by simp, fun z => (by cases z), fun _ => ⟨⟨[.sh w, .sh (.str (tx l)), .sh (.str ⟨#[c]⟩)], s⟩, ?_, by simp⟩⟩
    rw [r_frz]
    simp [mV, in_digs (hd c hc2)]
theorem opAll_true (l : List Nat) : opAll (.lst (l.map fun _ => .bl true)) = some (.sh (.bl true)) := by
  have h : ∀ l : List Nat, asBs (l.map fun _ => D.bl true) = some (l.map fun _ => true) := by
    intro l
    induction l with
    | nil => rfl
    | cons a l ih => simp [asBs, ih]
  have e : opAll (.lst (l.map fun _ => .bl true)) = (asBs (l.map fun _ => D.bl true)).map fun bs => RV.sh (.bl (bs.all id)) := rfl
  rw [e, h]
  simp
theorem ix_0 {c : Nat} {r : List Nat} (hl : (c :: r).length ≤ 7000) : opIx (.str (tx (c :: r))) (.int 0) = some (.sh (.str (tx [c]))) := by
  have e : opIx (.str (tx (c :: r))) (.int 0) = if (tx (c :: r)).length ≤ lim then (atI (tx (c :: r)).cps.toList 0).map fun c => RV.sh (.str ⟨#[c]⟩) else none := rfl
  rw [e, tx_len, if_pos (by simp only [lim]; omega), tx_l, atI_0]
  rfl
theorem numL_zero : TL.numL 0 = [48] := TL.numL_lt (by decide)
theorem numL_cons (n : Nat) : ∃ c r, TL.numL n = c :: r ∧ (c = 48 → n = 0) ∧ 48 ≤ c ∧ c ≤ 57 := by
  by_cases h : n = 0
  · subst h; exact ⟨48, [], numL_zero, fun _ => rfl, by decide, by decide⟩
  · obtain ⟨c, r, e, hc⟩ := numL_head n (by omega)
    have := TL.numL_digits n c (by rw [e]; exact List.mem_cons_self ..)
    exact ⟨c, r, e, fun z => by omega, this⟩
/-- int texts are read back -/
theorem s_number_in (n : Int) (h : n.natAbs < 10 ^ 5000) : F_number_in [.str (tx (numT n))] s = .ret (.sh (.int n)) s := by
  have hd := TL.numL_digits n.natAbs
  have hlen := TL.numL_len (n := n.natAbs) (k := 5000) (by decide) h
  obtain ⟨c, r, e, c0, c1⟩ := numL_cons n.natAbs
  have no := s_number_of (s := s) hd (by omega)
  rw [TL.numL_val] at no
  have ad := all_digs (s := s) hd (by omega) (.str (tx (numT n)))
  have al := opAll_true (TL.numL n.natAbs)
  have okd := ok_dig hd
  have ok1 : PyData.strOk (tx [45]) = true := ok_small (by simp)
  have ok2 : PyData.strOk (tx []) = true := ok_small (by simp)
  have ok3 : PyData.strOk (tx [48]) = true := ok_small (by simp)
  have okc : PyData.strOk (tx [c]) = true := ok_small (by simp; omega)
  have hne : decide (TL.numL n.natAbs = []) = false := decide_eq_false (TL.numL_ne _)
  have q1 : opEq (.str (tx (TL.numL n.natAbs))) (.str (tx [])) = some false := by rw [eq_tx okd ok2, hne]
  have q2 : opEq (.str (tx [c])) (.str (tx [48])) = some (decide (c = 48)) := by rw [eq_tx okc ok3]; simp
  have q3 : opIx (.str (tx (TL.numL n.natAbs))) (.int 0) = some (.sh (.str (tx [c]))) := by rw [e]; exact ix_0 (by rw [← e]; omega)
  unfold F_number_in m_number_in
  simp only [e_dash, e_nil, e_0]
  by_cases hn : n < 0
  · have en : numT n = 45 :: TL.numL n.natAbs := by simp [numT, hn]
    have hc : ¬ c = 48 := fun z => by have := c0 z; omega
    have okn : PyData.strOk (tx (numT n)) = true := ok_small (by
      rw [en]
      intro d hd'
      rcases List.mem_cons.mp hd' with z | z
      · omega
      · have := hd d z; omega)
    have p1 : opSl (.str (tx (numT n))) none (some 1) = some (.sh (.str (tx [45]))) := by
      rw [opSl_tx (by rw [en, List.length_cons]; simp only [lim]; omega), show (1 : Int) = ((1 : Nat) : Int) from rfl, cut_to, en]; rfl
    have p2 : opSl (.str (tx (numT n))) (some 1) none = some (.sh (.str (tx (TL.numL n.natAbs)))) := by
      rw [opSl_tx (by rw [en, List.length_cons]; simp only [lim]; omega), show (1 : Int) = ((1 : Nat) : Int) from rfl, cut_from, en]; rfl
    have p3 : opEq (.str (tx [45])) (.str (tx [45])) = some true := by rw [eq_tx ok1 ok1]; simp
    have p4 : opEq (.str (tx (numT n))) (.str (tx (TL.numL n.natAbs))) = some false := by
      rw [eq_tx okn okd, en]
      refine congrArg some (decide_eq_false fun z => ?_)
      have := congrArg List.length z
      simp at this
    have fin : -((n.natAbs : Nat) : Int) = n := by omega
    simp [runF, entry, mV, p1, p2, p3, p4, q1, q2, q3, hc, ad, al, no]
    omega
  · have en : numT n = TL.numL n.natAbs := by simp [numT, hn]
    rw [en] at ad ⊢
    have hc45 : ¬ c = 45 := by omega
    have p1 : opSl (.str (tx (TL.numL n.natAbs))) none (some 1) = some (.sh (.str (tx [c]))) := by
      rw [opSl_tx (by simp only [lim]; omega), show (1 : Int) = ((1 : Nat) : Int) from rfl, cut_to, e]; rfl
    have p3 : opEq (.str (tx [c])) (.str (tx [45])) = some false := by rw [eq_tx okc ok1]; simp [hc45]
    have p4 : opEq (.str (tx (TL.numL n.natAbs))) (.str (tx (TL.numL n.natAbs))) = some true := by rw [eq_tx okd okd]; simp
    have p5 : c = 48 → opNe (.str (tx (TL.numL n.natAbs))) (.str (tx [48])) = some false := fun z => by
      rw [c0 z, numL_zero, ne_tx ok3 ok3]; simp
    by_cases hc : c = 48
    · have p5' := p5 hc
      subst hc
      simp [runF, entry, mV, p1, p3, p4, p5', q1, q2, q3, ad, al, no]
      omega
    · simp [runF, entry, mV, p1, p3, p4, q1, q2, q3, hc, ad, al, no]
      omega
theorem is_non_i (n : Int) : opIs2 (.int n) .non = some false := rfl
theorem no47 (n : Int) : 47 ∉ TL.tl (tx (numT n)) := by
  show 47 ∉ numT n
  unfold numT
  intro h
  rcases List.mem_append.mp h with h | h
  · split at h <;> simp at h
  · have := TL.numL_digits _ 47 h; omega
theorem part_eq {a : Str} (h : a.length ≤ lim) : opPart (.str a) (.str (tx [47])) = some (.sh (.tup [.str (Txt.partition a (tx [47])).1, .str (Txt.partition a (tx [47])).2.1, .str (Txt.partition a (tx [47])).2.2])) := by
  have e : ((tx [47]).length == 0) = false := by rw [tx_len]; rfl
  show (if ((tx [47]).length == 0) = false ∧ a.length ≤ lim then _ else none) = _
  rw [if_pos ⟨e, h⟩]
theorem s_fraction_in {q : Rat} {k : Nat} (h : Bd k q) (hk : k ≤ 16000) : F_fraction_in [.str (tx (txtL q))] s = .ret (.sh (fr q)) s := by
  have n1 := two_ten h.1 hk
  have n2 := two_ten h.2 hk
  have i1 := s_number_in (s := s) q.num n1
  have i2 := s_number_in (s := s) (q.den : Int) (by simpa using n2)
  have l1 := numT_len (n := q.num) (k := 5000) (by decide) n1
  have l2 := numT_len (n := (q.den : Int)) (k := 5000) (by decide) (by simpa using n2)
  have ok1 : PyData.strOk (tx [47]) = true := ok_small (by simp)
  have ok2 : PyData.strOk (tx []) = true := ok_small (by simp)
  have e3 : Str.ofString "/" = tx [47] := rfl
  have e4 : Str.empty = tx [] := rfl
  have fq := s_isfr q s
  have m1 := is_non_i q.num
  have m2 := is_non_i (q.den : Int)
  have t1 : opEq (.str (tx [])) (.str (tx [])) = some true := by rw [eq_tx ok2 ok2]; simp
  have t2 : opEq (.str (tx [47])) (.str (tx [])) = some false := by rw [eq_tx ok1 ok2]; simp
  have t3 : opEq (.str (tx [47])) (.str (tx [47])) = some true := by rw [eq_tx ok1 ok1]; simp
  have t4 : opEq (.str (tx [])) (.str (tx [47])) = some false := by rw [eq_tx ok2 ok1]; simp
  unfold F_fraction_in m_fraction_in txtL
  simp only [e3, e_nil]
  by_cases hd : q.den = 1
  · have p := part_eq (a := tx (numT q.num)) (by rw [tx_len]; simp only [lim]; omega)
    rw [TL.partition_none (y := tx [47]) rfl (no47 _), e4] at p
    have fe : fr q = .tup [.int q.num, .int 1] := by unfold fr; rw [hd]; rfl
    rw [fe] at fq ⊢
    have m3 := is_non_i 1
    simp [runF, entry, mV, hd, p, i1, t1, t4, m1, m3, fq]
  · have hd2 : ¬ ((q.den : Int) < 2) := by have := q.den_nz; omega
    have p := part_eq (a := tx (numT q.num ++ 47 :: numT q.den)) (by rw [tx_len, List.length_append, List.length_cons]; simp only [lim]; omega)
    have ea : tx (numT q.num ++ 47 :: numT q.den) = tx (numT q.num) ++ tx [47] ++ tx (numT q.den) := by rw [tx_cat, tx_cat, List.append_assoc]; rfl
    rw [ea, TL.partition_app (y := tx [47]) rfl (no47 _), ← ea] at p
    have fe : fr q = .tup [.int q.num, .int q.den] := rfl
    rw [fe] at fq ⊢
    simp [runF, entry, mV, hd, hd2, p, i1, i2, t2, t3, m1, m2, fq]
theorem s_read {q : Rat} {k : Nat} (h : Bd k q) (hk : k ≤ 16000) : F_read_fraction [.str (tx (txtL q))] s = .ret (.sh (fr q)) s := by
  have f := s_fraction_in (s := s) h hk
  have e1 : opIsi (.str (tx (txtL q))) (.val (.ty "str")) = some (.sh (.bl true)) := by simp [opIsi, opKind]; decide +kernel
  have e2 : opIs2 (fr q) .non = some false := rfl
  simp [F_read_fraction, runF, m_read_fraction, entry, mV, e1, e2, f]
end
end A04

set_option Elab.async false
set_option linter.all false
set_option maxRecDepth 100000
set_option maxHeartbeats 4000000
namespace A04
open PySem PySem.Spec L2 PM
/-! ### the draws -/
def kCe : Key := .inr "cells"
def kUs : Key := .inr "used"
def kLe : Key := .inr "left"
def pen (cs : List Int) (u l : Int) : List (Key × D) := [(kCe, .lst (cs.map .int)), (kUs, .int u), (kLe, .int l)]
theorem ne1 : ¬ kCe = kUs := by decide
theorem ne2 : ¬ kCe = kLe := by decide
theorem ne3 : ¬ kUs = kLe := by decide
section
variable {cs : List Int} {u l : Int}
@[simp] theorem ak1 : asKey (.str (Str.ofString "cells")) = some kCe := rfl
@[simp] theorem ak2 : asKey (.str (Str.ofString "used")) = some kUs := rfl
@[simp] theorem ak3 : asKey (.str (Str.ofString "left")) = some kLe := rfl
@[simp] theorem dg1 : dget (pen cs u l) kCe = some (.lst (cs.map .int)) := by simp [dget, pen]
@[simp] theorem dg2 : dget (pen cs u l) kUs = some (.int u) := by simp [dget, pen, ne1]
@[simp] theorem dg3 : dget (pen cs u l) kLe = some (.int l) := by simp [dget, pen, ne2, ne3]
@[simp] theorem dp2 {x : Int} : dput (pen cs u l) kUs (.int x) = pen cs x l := by simp [dput, pen, ne1, ne3, Ne.symm ne3]
@[simp] theorem dp3 {x : Int} : dput (pen cs u l) kLe (.int x) = pen cs u x := by simp [dput, pen, ne2, ne3]
theorem up_dc {n : Nat} {env : List Slot} {store : List Cell} {kvs : List (Key × D)} {d : D} {k : Key} {kd : D} (h : store[n]? = some (.dc kvs)) (hk : asKey kd = some k) (hl : kvs.length < lim) : upC (putC kd d) (.sh (.obj n)) ⟨env, store⟩ = some (.non, ⟨env, store.set n (.dc (dput kvs k d))⟩) := by
  simp [upC, h, putC, hl, hk]
theorem pen_len : (pen cs u l).length < lim := by simp [pen, lim]
theorem pys_i : ∀ cs : List Int, D.pys (cs.map .int) = some (cs.map .int)
  | [] => rfl
  | c :: cs => by simp [D.pys, D.py, pys_i cs]
theorem lay_i : ∀ cs : List Int, PyData.canLayAll0 (cs.map .int) = true
  | [] => rfl
  | c :: cs => by simp [PyData.canLayAll0, PyData.canLay0, lay_i cs]
theorem dep_i : ∀ cs : List Int, PyData.depthAll (cs.map .int) ≤ 1
  | [] => by simp [PyData.depthAll]
  | c :: cs => by
    have := dep_i cs
    simp [PyData.depthAll, PyData.depth]
    omega
theorem sh_i (cs : List Int) : SeqAt.shaped (.list (cs.map .int)) = true := by
  have := dep_i cs
  simp [SeqAt.shaped, PyData.canLay0, lay_i, PyData.depth]
  omega
theorem ne_e (cs : List Int) : opNe (.lst (cs.map .int)) (.lst []) = some (!decide (cs = [])) := by
  have e : opEq (.lst (cs.map .int)) (.lst []) = some (decide (cs = [])) := by
    have h1 : D.py (.lst (cs.map .int)) = some (.list (cs.map .int)) := by simp [D.py, pys_i]
    have h2 : D.py (.lst []) = some (.list []) := by simp [D.py, D.pys]
    have h3 := sh_i cs
    have h4 := sh_i []
    have h5 : PyData.eqv (.list (cs.map .int)) (.list []) = decide (cs = []) := by cases cs <;> simp [PyData.eqv, PyData.eqvAll]
    rw [List.map_nil] at h4
    simp only [opEq, h1, h2, Option.bind_some, h3, h4, Bool.and_self, if_true, h5]
  simp [opNe, e]
end
theorem sml_b {x : Int} (h : -1000000000000000000000000000000 < x) (h2 : x < 1000000000000000000000000000000000000000) : sml x = true := by
  refine sml_of (k := 200) ?_ (by decide)
  have e : (2 : Nat) ^ 200 = 1606938044258990275541962092341162602522202993782792835301376 := by decide +kernel
  omega
def drawB : Nat → Int
  | 0 => 50000000
  | k + 1 => 50000000 * drawB k
theorem drawB_pos : ∀ k, 50000000 ≤ drawB k
  | 0 => by decide
  | k + 1 => by
    have := drawB_pos k
    show 50000000 ≤ 50000000 * drawB k
    omega
theorem o18 : opPow (.int 10) (.int 18) = some (.sh (.int 1000000000000000000)) := rfl
theorem draw_step (Frec : Fn) (B : Int) (hB : 0 ≤ B) (many : Int) (n : Nat) (h0 : 0 < many) (hlg : many.natAbs < 2 ^ 8000)
    (hrec : 60000000 < many → ∀ (store : List Cell) (cs : List Int) (u l : Int), store[n]? = some (.dc (pen cs u l)) → cs.length ≤ 63 → 0 ≤ u → u + B ≤ 1000000000 → 0 ≤ l → ∃ r u' l', Frec [.obj n, .int (many / 60000000 + 1)] store = .ret (.sh (.int r)) (store.set n (.dc (pen cs u' l'))) ∧ 0 ≤ r ∧ r < many / 60000000 + 1 ∧ u ≤ u' ∧ u' ≤ u + B ∧ 0 ≤ l')
    (store : List Cell) (cs : List Int) (u l : Int) (hs : store[n]? = some (.dc (pen cs u l))) (hc : cs.length ≤ 63) (hu : 0 ≤ u) (hu2 : u + B ≤ 999999999) (hl : 0 ≤ l) :
    ∃ r u' l', runF (m__law_draw Frec) 4 [.obj n, .int many] store = .ret (.sh (.int r)) (store.set n (.dc (pen cs u' l'))) ∧ 0 ≤ r ∧ r < many ∧ u ≤ u' ∧ u' ≤ u + B + 1 ∧ 0 ≤ l' := by
  have hlog : many.natAbs.log2 < 9000 := log2_le hlg (by decide)
  have hn : n < store.length := (List.getElem?_eq_some_iff.mp hs).1
  have hset : ∀ c, (store.set n c)[n]? = some c := fun c => List.getElem?_set_self hn
  have v1 : ∀ env, view ⟨env, store⟩ (.sh (.obj n)) = some (.dct (pen cs u l)) := fun env => view_dc hs
  have v2 : ∀ env kvs, view ⟨env, store.set n (.dc kvs)⟩ (.sh (.obj n)) = some (.dct kvs) := fun env kvs => view_dc (hset _)
  have u1 : ∀ env kd k d, asKey kd = some k → upC (putC kd d) (.sh (.obj n)) ⟨env, store⟩ = some (.non, ⟨env, store.set n (.dc (dput (pen cs u l) k d))⟩) := fun env kd k d h => up_dc hs h pen_len
  have u2 : ∀ env kd k d x y, asKey kd = some k → upC (putC kd d) (.sh (.obj n)) ⟨env, store.set n (.dc (pen cs x y))⟩ = some (.non, ⟨env, store.set n (.dc (dput (pen cs x y) k d))⟩) := fun env kd k d x y h => by
    rw [up_dc (hset _) h pen_len, List.set_set]
  by_cases hl0 : 0 < l
  · refine ⟨l % many, u, l / many, ?_, Int.emod_nonneg _ (by omega), Int.emod_lt_of_pos _ h0, by omega, by omega, Int.ediv_nonneg hl (by omega)⟩
    have o1 := opMod_i (i := l) h0
    have o2 := opFdv_i (i := l) h0 hlog
    have w := u1 [.sh (.obj n), .sh (.int many), .sh (.int (l % many)), .un, .un, .un] (.str (Str.ofString "left")) kLe (.int (l / many)) rfl
    simp [runF, m__law_draw, entry, mV, v1, v2, hl0, o1, o2, w]
  · have w1 := u1 [.sh (.obj n), .sh (.int many), .un, .sh (.int u), .un, .un] (.str (Str.ofString "used")) kUs (.int (u + 1)) rfl
    have s1 := sml_b (x := u) (by omega) (by omega)
    have s43 : sml 43 = true := by decide
    have s30 : sml 30011 = true := by decide
    have s17 : sml 178481 = true := by decide
    have s16 : sml 16769023 = true := by decide
    have s5 : sml 5 = true := by decide
    have s6 : sml 60000000 = true := by decide
    have s11 : sml 1103515 = true := by decide
    have s3 := sml_b (x := 30011 * u) (by omega) (by omega)
    have lc : opLen (.lst (cs.map D.int)) = some (.sh (.int ((cs.length : Nat) : Int))) := by simp [opLen]
    have ne0 := ne_e cs
    -- the cell
    obtain ⟨c, hcell⟩ : ∃ c : Int, ((cs = [] ∧ c = 43 * u + 7) ∨ (cs ≠ [] ∧ opMod (.int u) (.int ((cs.length : Nat) : Int)) = some (.sh (.int (u % cs.length))) ∧ opIx (.lst (cs.map D.int)) (.int (u % cs.length)) = some (.sh (.int c)))) := by
      by_cases he : cs = []
      · exact ⟨_, .inl ⟨he, rfl⟩⟩
      · have hp : 0 < cs.length := List.length_pos_iff.mpr he
        have hlt : u % (cs.length : Int) < cs.length := Int.emod_lt_of_pos _ (by omega)
        have hge : 0 ≤ u % (cs.length : Int) := Int.emod_nonneg _ (by omega)
        obtain ⟨i, hi⟩ := Int.eq_ofNat_of_zero_le hge
        have hi2 : i < cs.length := by omega
        refine ⟨cs[i], .inr ⟨he, opMod_i (by omega), ?_⟩⟩
        rw [opIx_l, hi, atI_nat (j := i) (v := D.int cs[i]) (by rw [List.getElem?_map, List.getElem?_eq_getElem hi2]; rfl)]
        rfl
    -- the blend
    have b1 : 0 ≤ c % 4294967231 ∧ c % 4294967231 < 4294967231 := ⟨Int.emod_nonneg _ (by decide), Int.emod_lt_of_pos _ (by decide)⟩
    have t1 := sml_b (x := c % 4294967231) (by omega) (by omega)
    have o1 := opMod_i (i := c) (j := 4294967231) (by decide)
    obtain ⟨x1, e1⟩ : ∃ x, x = c % 4294967231 * 1103515 + 30011 * u * u := ⟨_, rfl⟩
    have b2 : 0 ≤ (x1 + 178481 * u + 23) % 4294967197 ∧ (x1 + 178481 * u + 23) % 4294967197 < 4294967197 := ⟨Int.emod_nonneg _ (by decide), Int.emod_lt_of_pos _ (by decide)⟩
    have o2 := opMod_i (i := x1 + 178481 * u + 23) (j := 4294967197) (by decide)
    obtain ⟨x2, e2⟩ : ∃ x, x = (x1 + 178481 * u + 23) % 4294967197 := ⟨_, rfl⟩
    rw [← e2] at b2 o2
    have t2 := sml_b (x := x2) (by omega) (by omega)
    obtain ⟨x3, e3⟩ : ∃ x, x = (x2 * x2 + 16769023 * x2 + 5 * u + 7) % 4294967189 := ⟨_, rfl⟩
    have o3 := opMod_i (i := x2 * x2 + 16769023 * x2 + 5 * u + 7) (j := 4294967189) (by decide)
    have b3 : 0 ≤ (x2 * x2 + 16769023 * x2 + 5 * u + 7) % 4294967189 ∧ (x2 * x2 + 16769023 * x2 + 5 * u + 7) % 4294967189 < 4294967189 := ⟨Int.emod_nonneg _ (by decide), Int.emod_lt_of_pos _ (by decide)⟩
    rw [← e3] at b3 o3
    have t3 := sml_b (x := x3) (by omega) (by omega)
    have t4 := sml_b (x := x3 + 28629151) (by omega) (by omega)
    have o4 := opMod_i (i := x3 * (x3 + 28629151)) (j := 4294967291) (by decide)
    have b4 : 0 ≤ x3 * (x3 + 28629151) % 4294967291 := Int.emod_nonneg _ (by decide)
    obtain ⟨x4, e4⟩ : ∃ x, x = x3 * (x3 + 28629151) % 4294967291 := ⟨_, rfl⟩
    rw [← e4] at b4 o4
    have o5 := opFdv_i (i := x4) (j := 64) (by decide) (by decide)
    obtain ⟨x5, e5⟩ : ∃ x, x = x4 / 64 := ⟨_, rfl⟩
    rw [← e5] at o5
    have m1 : opMul (.int (c % 4294967231)) (.int 1103515) = some (.sh (.int (c % 4294967231 * 1103515))) := opMul_i t1 s11
    have m2 : opMul (.int 30011) (.int u) = some (.sh (.int (30011 * u))) := opMul_i s30 s1
    have m3 : opMul (.int (30011 * u)) (.int u) = some (.sh (.int (30011 * u * u))) := opMul_i s3 s1
    have m4 : opMul (.int 178481) (.int u) = some (.sh (.int (178481 * u))) := opMul_i s17 s1
    have m5 : opMul (.int x2) (.int x2) = some (.sh (.int (x2 * x2))) := opMul_i t2 t2
    have m6 : opMul (.int 16769023) (.int x2) = some (.sh (.int (16769023 * x2))) := opMul_i s16 t2
    have m7 : opMul (.int 5) (.int u) = some (.sh (.int (5 * u))) := opMul_i s5 s1
    have m8 : opMul (.int x3) (.int (x3 + 28629151)) = some (.sh (.int (x3 * (x3 + 28629151)))) := opMul_i t3 t4
    have m9 : opMul (.int 43) (.int u) = some (.sh (.int (43 * u))) := opMul_i s43 s1
    have a1 : opAdd (.int (c % 4294967231 * 1103515)) (.int (30011 * u * u)) = some (.sh (.int x1)) := by rw [e1]; rfl
    -- a great cell
    by_cases hg : u < cs.length ∧ (1000000000000000000 : Int) ≤ (c.natAbs : Int)
    · have he : cs ≠ [] := fun z => by rw [z] at hg; simp at hg; omega
      obtain ⟨z, _⟩ | ⟨_, q1, q2⟩ := hcell
      · exact absurd z he
      · obtain ⟨g1, g2⟩ := hg
        have f1 := opMod_i (i := (c.natAbs : Int) - 1000000000000000000) h0
        have f2 := opFdv_i (i := (c.natAbs : Int) - 1000000000000000000) h0 hlog
        have w2 := u2 [.sh (.obj n), .sh (.int many), .un, .sh (.int u), .sh (.int c), .un] (.str (Str.ofString "left")) kLe (.int (((c.natAbs : Int) - 1000000000000000000) / many)) (u + 1) l rfl
        refine ⟨((c.natAbs : Int) - 1000000000000000000) % many, u + 1, ((c.natAbs : Int) - 1000000000000000000) / many, ?_, Int.emod_nonneg _ (by omega), Int.emod_lt_of_pos _ h0, by omega, by omega, Int.ediv_nonneg (by omega) (by omega)⟩
        have ne1 : opNe (.lst (cs.map .int)) (.lst []) = some true := by rw [ne0, decide_eq_false he]; rfl
        have ab : opAbs (.int c) = some (.sh (.int (c.natAbs : Int))) := opAbs_i
        generalize (c.natAbs : Int) = ca at *
        simp [-opMul_i, runF, m__law_draw, entry, mV, v1, v2, hl0, w1, lc, ne1, q1, q2, m9, g1, g2, ab, o18, f1, f2, w2]
    · have ab : opAbs (.int c) = some (.sh (.int (c.natAbs : Int))) := opAbs_i
      have hg' : (cs.length : Int) > u → ¬ (1000000000000000000 : Int) ≤ (c.natAbs : Int) := fun z y => hg ⟨z, y⟩
      clear hg
      generalize (c.natAbs : Int) = ca at *
      -- a great number
      have fin : ∃ y u' l', (0 ≤ l' ∧ u ≤ u' ∧ u' ≤ u + B + 1) ∧
          ((¬ 60000000 < many ∧ y = x5 ∧ u' = u + 1 ∧ l' = l) ∨
           (60000000 < many ∧ ∃ r, y = x5 + 60000000 * r ∧ sml r = true ∧ Frec [.obj n, .int (many / 60000000 + 1)] (store.set n (.dc (pen cs (u + 1) l))) = .ret (.sh (.int r)) (store.set n (.dc (pen cs u' l'))))) := by
        by_cases hb : 60000000 < many
        · obtain ⟨r, u', l', h1, h2, h3, h4, h5, h6⟩ := hrec hb _ cs (u + 1) l (hset _) hc (by omega) (by omega) hl
          rw [List.set_set] at h1
          refine ⟨_, u', l', ⟨h6, by omega, by omega⟩, .inr ⟨hb, r, rfl, sml_of (k := 8000) ?_ (by decide), h1⟩⟩
          have : r.natAbs ≤ many.natAbs := by omega
          exact Nat.lt_of_le_of_lt this hlg
        · exact ⟨_, u + 1, l, ⟨hl, by omega, by omega⟩, .inl ⟨hb, rfl, rfl, rfl⟩⟩
      obtain ⟨y, u', l', ⟨k1, k2, k3⟩, fin⟩ := fin
      refine ⟨y % many, u', l', ?_, Int.emod_nonneg _ (by omega), Int.emod_lt_of_pos _ h0, k2, k3, k1⟩
      have oy := opMod_i (i := y) h0
      have f6 := opFdv_i (i := many) (j := 60000000) (by decide) (by decide)
      rcases hcell with ⟨he, ec⟩ | ⟨he, q1, q2⟩
      · have ne1 : opNe (.lst (cs.map .int)) (.lst []) = some false := by rw [ne0, decide_eq_true he]; rfl
        have h1 : ¬ u < (cs.length : Int) := by rw [he]; simp; omega
        have a9 : opAdd (.int (43 * u)) (.int 7) = some (.sh (.int c)) := by rw [ec]; rfl
        clear ec he e1 e2 e3 e4 e5 ne0
        rcases fin with ⟨hb, rfl, rfl, rfl⟩ | ⟨hb, r, rfl, sr, rec⟩
        · simp [-opMul_i, -opMod_i, -opFdv_i, runF, m__law_draw, entry, mV, v1, v2, hl0, w1, lc, ne1, m9, a9, h1, o1, m1, m2, m3, a1, m4, o2, m5, m6, m7, o3, m8, o4, o5, hb, oy]
        · have m10 : opMul (.int 60000000) (.int r) = some (.sh (.int (60000000 * r))) := opMul_i s6 sr
          simp [-opMul_i, -opMod_i, -opFdv_i, runF, m__law_draw, entry, mV, v1, v2, hl0, w1, lc, ne1, m9, a9, h1, o1, m1, m2, m3, a1, m4, o2, m5, m6, m7, o3, m8, o4, o5, hb, oy, f6, rec, m10]
      · have ne1 : opNe (.lst (cs.map .int)) (.lst []) = some true := by rw [ne0, decide_eq_false he]; rfl
        clear he e1 e2 e3 e4 e5 ne0
        by_cases h1 : u < (cs.length : Int)
        · have h2 := hg' h1
          rcases fin with ⟨hb, rfl, rfl, rfl⟩ | ⟨hb, r, rfl, sr, rec⟩
          · simp [-opMul_i, -opMod_i, -opFdv_i, runF, m__law_draw, entry, mV, v1, v2, hl0, w1, lc, ne1, q1, q2, m9, h1, h2, ab, o18, o1, m1, m2, m3, a1, m4, o2, m5, m6, m7, o3, m8, o4, o5, hb, oy]
          · have m10 : opMul (.int 60000000) (.int r) = some (.sh (.int (60000000 * r))) := opMul_i s6 sr
            simp [-opMul_i, -opMod_i, -opFdv_i, runF, m__law_draw, entry, mV, v1, v2, hl0, w1, lc, ne1, q1, q2, m9, h1, h2, ab, o18, o1, m1, m2, m3, a1, m4, o2, m5, m6, m7, o3, m8, o4, o5, hb, oy, f6, rec, m10]
        · rcases fin with ⟨hb, rfl, rfl, rfl⟩ | ⟨hb, r, rfl, sr, rec⟩
          · simp [-opMul_i, -opMod_i, -opFdv_i, runF, m__law_draw, entry, mV, v1, v2, hl0, w1, lc, ne1, q1, q2, m9, h1, ab, o18, o1, m1, m2, m3, a1, m4, o2, m5, m6, m7, o3, m8, o4, o5, hb, oy]
          · have m10 : opMul (.int 60000000) (.int r) = some (.sh (.int (60000000 * r))) := opMul_i s6 sr
            simp [-opMul_i, -opMod_i, -opFdv_i, runF, m__law_draw, entry, mV, v1, v2, hl0, w1, lc, ne1, q1, q2, m9, h1, ab, o18, o1, m1, m2, m3, a1, m4, o2, m5, m6, m7, o3, m8, o4, o5, hb, oy, f6, rec, m10]
theorem drawB_0 : drawB 0 = 50000000 := rfl
theorem drawB_s (k : Nat) : drawB (k + 1) = 50000000 * drawB k := rfl
def DrawOk (k : Nat) (F : Fn) : Prop := ∀ (many : Int) (n : Nat), 0 < many → many ≤ drawB k → many.natAbs < 2 ^ 8000 → ∀ (store : List Cell) (cs : List Int) (u l : Int), store[n]? = some (.dc (pen cs u l)) → cs.length ≤ 63 → 0 ≤ u → u + (k : Int) ≤ 999999999 → 0 ≤ l →
    ∃ r u' l', F [.obj n, .int many] store = .ret (.sh (.int r)) (store.set n (.dc (pen cs u' l'))) ∧ 0 ≤ r ∧ r < many ∧ u ≤ u' ∧ u' ≤ u + (k : Int) + 1 ∧ 0 ≤ l'
theorem draw_0 : DrawOk 0 (F__law_draw 1) := by
  intro many n h0 hb hlg store cs u l hs hc hu hu2 hl
  rw [drawB_0] at hb
  obtain ⟨r, u', l', h1, h2, h3, h4, h5, h6⟩ := draw_step (F__law_draw 0) 0 (by decide) many n h0 hlg (fun z => by omega) store cs u l hs hc hu (by omega) hl
  exact ⟨r, u', l', h1, h2, h3, h4, by omega, h6⟩
theorem draw_s (k : Nat) (ih : DrawOk k (F__law_draw (k + 1))) : DrawOk (k + 1) (F__law_draw (k + 2)) := by
  intro many n h0 hb hlg store cs u l hs hc hu hu2 hl
  rw [drawB_s] at hb
  have dp := drawB_pos k
  have hrec : 60000000 < many → ∀ (store : List Cell) (cs : List Int) (u l : Int), store[n]? = some (.dc (pen cs u l)) → cs.length ≤ 63 → 0 ≤ u → u + ((k : Int) + 1) ≤ 1000000000 → 0 ≤ l → ∃ r u' l', F__law_draw (k + 1) [.obj n, .int (many / 60000000 + 1)] store = .ret (.sh (.int r)) (store.set n (.dc (pen cs u' l'))) ∧ 0 ≤ r ∧ r < many / 60000000 + 1 ∧ u ≤ u' ∧ u' ≤ u + ((k : Int) + 1) ∧ 0 ≤ l' := by
    intro z store cs u l hs hc hu hu2 hl
    obtain ⟨r, u', l', h1, h2, h3, h4, h5, h6⟩ := ih (many / 60000000 + 1) n (by omega) (by omega) (Nat.lt_of_le_of_lt (by omega : (many / 60000000 + 1).natAbs ≤ many.natAbs) hlg) store cs u l hs hc hu (by omega) hl
    exact ⟨r, u', l', h1, h2, h3, h4, by omega, h6⟩
  obtain ⟨r, u', l', h1, h2, h3, h4, h5, h6⟩ := draw_step (F__law_draw (k + 1)) ((k : Int) + 1) (by omega) many n h0 hlg hrec store cs u l hs hc hu (by omega) hl
  exact ⟨r, u', l', h1, h2, h3, h4, by omega, h6⟩
theorem s_draw : ∀ k : Nat, DrawOk k (F__law_draw (k + 1))
  | 0 => draw_0
  | k + 1 => draw_s k (s_draw k)
end A04

set_option Elab.async false
set_option linter.all false
set_option maxRecDepth 100000
set_option maxHeartbeats 4000000
set_option exponentiation.threshold 20000
namespace A04
open PySem PySem.Spec L2 PM
/-- a pen stands at n: its cells, at most N used -/
def Pn (n : Nat) (cs : List Int) (N : Int) (store : List Cell) : Prop := cs.length ≤ 63 ∧ ∃ u l, store[n]? = some (.dc (pen cs u l)) ∧ 0 ≤ u ∧ u ≤ N ∧ 0 ≤ l
section
variable {n : Nat} {cs : List Int} {N : Int} {store : List Cell}
theorem drawB7 : drawB 7 = 39062500000000000000000000000000000000000000000000000000000000 := by decide +kernel
theorem p_draw (many : Int) (h0 : 0 < many) (hb : many ≤ 10000000000000000000000000000000000000000) (h : Pn n cs N store) (hN : N ≤ 900000000) :
    ∃ r store', F__law_draw 8 [.obj n, .int many] store = .ret (.sh (.int r)) store' ∧ Pn n cs (N + 8) store' ∧ 0 ≤ r ∧ r < many := by
  obtain ⟨hc, u, l, hs, hu, hu2, hl⟩ := h
  have hlg : many.natAbs < 2 ^ 8000 := by
    have e : many.natAbs < 2 ^ 200 := by
      have e : (2 : Nat) ^ 200 = 1606938044258990275541962092341162602522202993782792835301376 := by decide +kernel
      omega
    exact Nat.lt_of_lt_of_le e (Nat.pow_le_pow_right (by decide) (by decide))
  obtain ⟨r, u', l', h1, h2, h3, h4, h5, h6⟩ := s_draw 7 many n h0 (by rw [drawB7]; omega) hlg store cs u l hs hc hu (by omega) hl
  have hn : n < store.length := (List.getElem?_eq_some_iff.mp hs).1
  exact ⟨r, _, h1, ⟨hc, u', l', List.getElem?_set_self hn, by omega, by omega, h6⟩, h2, h3⟩
theorem p_pick (ds : List D) (h0 : ds ≠ []) (hb : ds.length ≤ 1000) (h : Pn n cs N store) (hN : N ≤ 900000000) :
    ∃ d store', F__law_pick [.obj n, .lst ds] store = .ret (.sh d) store' ∧ Pn n cs (N + 8) store' ∧ d ∈ ds := by
  have hp : 0 < ds.length := List.length_pos_iff.mpr h0
  obtain ⟨r, store', h1, h2, h3, h4⟩ := p_draw (many := (ds.length : Int)) (by omega) (by omega) h hN
  obtain ⟨i, hi⟩ := Int.eq_ofNat_of_zero_le h3
  have hi2 : i < ds.length := by omega
  have ix : opIx (.lst ds) (.int r) = some (.sh ds[i]) := by
    rw [opIx_l, hi, atI_nat (j := i) (v := ds[i]) (List.getElem?_eq_getElem hi2)]
    rfl
  have lc : opLen (.lst ds) = some (.sh (.int ((ds.length : Nat) : Int))) := rfl
  refine ⟨ds[i], store', ?_, h2, List.getElem_mem hi2⟩
  simp [F__law_pick, runF, m__law_pick, entry, mV, lc, h1, ix]
theorem p_integer (b : Int) (h0 : 0 ≤ b) (hb : b ≤ 1000000000000000000000000000000000000) (h : Pn n cs N store) (hN : N ≤ 900000000) :
    ∃ r store', F__law_integer [.obj n, .int b] store = .ret (.sh (.int r)) store' ∧ Pn n cs (N + 8) store' ∧ -b ≤ r ∧ r ≤ b := by
  obtain ⟨r, store', h1, h2, h3, h4⟩ := p_draw (many := 2 * b + 1) (by omega) (by omega) h hN
  have s2 : sml 2 = true := by decide
  have sb := sml_b (x := b) (by omega) (by omega)
  have m1 : opMul (.int 2) (.int b) = some (.sh (.int (2 * b))) := opMul_i s2 sb
  refine ⟨r - b, store', ?_, h2, by omega, by omega⟩
  simp [F__law_integer, runF, m__law_integer, entry, mV, m1, h1]
end
theorem low_loop (x y : D) (s : List Cell) : ∀ (n a b : Nat), b < n → mWhileN n (mCmp opGt (mV 3) (mL (.int 0))) (mPar 2 3 (mV 3) (mOp opMod (mV 2) (mV 3))) ⟨[.sh x, .sh y, .sh (.int a), .sh (.int b)], s⟩ = .nx ⟨[.sh x, .sh y, .sh (.int (Nat.gcd a b)), .sh (.int 0)], s⟩
  | 0, _, _, h => absurd h (Nat.not_lt_zero _)
  | n + 1, a, 0, _ => by
    rw [r_whiles]
    simp [mV]
  | n + 1, a, b + 1, h => by
    have h2 : a % (b + 1) < b + 1 := Nat.mod_lt _ (Nat.succ_pos _)
    have e : ((a : Int) % ((b : Int) + 1)) = ((a % (b + 1) : Nat) : Int) := (Int.natCast_emod a (b + 1)).symm
    have hp : (0 : Int) < (b : Int) + 1 := by omega
    have ih := low_loop x y s n (b + 1) (a % (b + 1)) (by omega)
    rw [Nat.gcd_comm (b + 1), ← Nat.gcd_rec, Nat.gcd_comm] at ih
    rw [r_whiles]
    simp [mV, hp]
    rw [e]
    exact ih
theorem s_low (n d : Int) (s : List Cell) (h0 : 0 < d) (hb : d.natAbs < 2 ^ 8000) : F__law_low [.int n, .int d] s = .ret (.sh (fr (Rat.divInt n d))) s := by
  have h0' : d ≠ 0 := by omega
  have g0 : 0 < Int.gcd n d := Int.gcd_pos_of_ne_zero_right _ h0'
  have gl : Int.gcd n d ≤ d.natAbs := Nat.le_of_dvd (Int.natAbs_pos.mpr h0') (Int.gcd_dvd_natAbs_right ..)
  have lg : (Int.gcd n d).log2 < 9000 := log2_le (Nat.lt_of_le_of_lt gl hb) (by decide)
  have e1 : d.sign = 1 := Int.sign_eq_one_of_pos h0
  have e2 : (d.natAbs : Int) = d := by omega
  have eg : Nat.gcd n.natAbs d.natAbs = Int.gcd n d := rfl
  have lp := low_loop (.int n) (.int d) s (d.natAbs + 1) n.natAbs d.natAbs (Nat.lt_succ_self _)
  rw [eg] at lp
  have o1 := opFdv_i (i := n) (j := ((Int.gcd n d : Nat) : Int)) (by omega) (by simpa using lg)
  have o2 := opFdv_i (i := d) (j := ((Int.gcd n d : Nat) : Int)) (by omega) (by simpa using lg)
  rw [fr_divInt n d h0', e1, e2, Int.one_mul]
  rw [e2] at lp
  generalize ((Int.gcd n d : Nat) : Int) = g at *
  simp [F__law_low, runF, m__law_low, entry, mV, natAt, lp, e2, h0, o1, o2]
section
variable {n : Nat} {cs : List Int} {N : Int} {store : List Cell}
theorem p_fraction (h : Pn n cs N store) (hN : N ≤ 800000000) : ∃ q store', F__law_fraction [.obj n] store = .ret (.sh (fr q)) store' ∧ Pn n cs (N + 32) store' ∧ Bd 120 q := by
  have pw : opPow (.int 10) (.int 30) = some (.sh (.int 1000000000000000000000000000000)) := rfl
  obtain ⟨d1, st1, a1, a2, a3⟩ := p_pick [.int 3, .int 12, .int 1000, .int 1000000000000000000000000000000] (by simp) (by simp) h (by omega)
  obtain ⟨b, rfl, hb0, hb1⟩ : ∃ b : Int, d1 = .int b ∧ 1 ≤ b ∧ b ≤ 1000000000000000000000000000000 := by
    simp only [List.mem_cons, List.not_mem_nil, or_false] at a3
    rcases a3 with rfl | rfl | rfl | rfl
    · exact ⟨_, rfl, by omega, by omega⟩
    · exact ⟨_, rfl, by omega, by omega⟩
    · exact ⟨_, rfl, by omega, by omega⟩
    · exact ⟨_, rfl, by omega, by omega⟩
  obtain ⟨i, st2, b1, b2, b3, b4⟩ := p_integer b (by omega) (by omega) a2 (by omega)
  obtain ⟨d2, st3, c1, c2, c3⟩ := p_pick [.int 1, .int 6, .int b] (by simp) (by simp) b2 (by omega)
  obtain ⟨m, rfl, hm0, hm1⟩ : ∃ m : Int, d2 = .int m ∧ 1 ≤ m ∧ m ≤ 1000000000000000000000000000000 := by
    simp only [List.mem_cons, List.not_mem_nil, or_false] at c3
    rcases c3 with rfl | rfl | rfl
    · exact ⟨_, rfl, by omega, by omega⟩
    · exact ⟨_, rfl, by omega, by omega⟩
    · exact ⟨_, rfl, by omega, by omega⟩
  obtain ⟨r, st4, e1, e2, e3, e4⟩ := p_draw m (by omega) (by omega) c2 (by omega)
  have p120 : (2 : Nat) ^ 120 = 1329227995784915872903807060280344576 := by decide +kernel
  have hd : (1 + r).natAbs < 2 ^ 120 := by omega
  have low := s_low i (1 + r) st4 (by omega) (Nat.lt_of_lt_of_le hd (Nat.pow_le_pow_right (by decide) (by decide)))
  have e5 : Pn n cs (N + 32) st4 := by
    have : N + 8 + 8 + 8 + 8 = N + 32 := by omega
    rw [← this]; exact e2
  refine ⟨Rat.divInt i (1 + r), st4, ?_, e5, bd_divInt (by omega) (by omega) hd⟩
  simp [F__law_fraction, runF, m__law_fraction, entry, mV, pw, a1, b1, c1, e1, low]
theorem s_pen (ns : List Int) (s : List Cell) : F__law_pen [.lsF (ns.map .int)] s = .ret (.sh (.obj s.length)) (s ++ [.dc (pen (ns.take 63) 0 0)]) := by
  have o1 : opSl (.lsF (ns.map .int)) none (some 63) = some (.ow (.ls ((ns.take 63).map .int))) := by
    show some (RV.ow (.ls (cut (ns.map D.int) none (some ((63 : Nat) : Int))))) = _
    rw [cut_to, List.map_take]
  obtain ⟨cs, hcs⟩ : ∃ cs, cs = ns.take 63 := ⟨_, rfl⟩
  rw [← hcs] at o1 ⊢
  have o2 : opList (.lst ((cs).map .int)) = some (.ow (.ls ((cs).map .int))) := by simp [opList, asL]
  have k : asKs [(.str (Str.ofString "cells"), .lst ((cs).map .int)), (.str (Str.ofString "used"), .int 0), (.str (Str.ofString "left"), .int 0)] = some (pen (cs) 0 0) := by simp [asKs, pen]
  have m : mergeD [] (pen (cs) 0 0) = pen (cs) 0 0 := by simp [mergeD, pen, dput, ne1, ne2, ne3]
  have di := fun st => kDi_e (st := st) k (by simp [pen])
  rw [m] at di
  simp [F__law_pen, runF, m__law_pen, entry, mV, o1, o2, di]
end
end A04

set_option Elab.async false
set_option linter.all false
set_option maxRecDepth 100000
set_option maxHeartbeats 8000000
set_option exponentiation.threshold 20000
namespace A04
open PySem PySem.Spec L2 PM
@[simp] theorem r_rg1 {st : State} {i : Int} (h : small i = true) : mRg1 (mL (.int i)) st = .ok (rng 0 i.toNat) st := by
  simp only [mRg1, M.bind, mL, M.pure, asI, h, if_true]
def bodyL : MS := (mSeq (mPar 3 4 (mCall 1 F__law_fraction (mCons (mV 1) (mNil))) (mCall 1 F__law_fraction (mCons (mV 1) (mNil))))
  (mSeq (mSet 5 (mCall 1 F__law_fraction (mCons (mV 1) (mNil))))
  (mSeq (mSet 4 (mCall 2 F__law_pick (mCons (mV 1) (mCons (mLst (mCons (mV 4) (mCons (mV 4) (mCons (mV 3) (mCons (mTup (mCons (mL (.int 0)) (mCons (mL (.int 1)) (mNil)))) (mNil)))))) (mNil)))))
  (mSeq (mIfS (mOr (mNot (mB (mCall 3 F__law_fields_right (mCons (mV 3) (mCons (mV 4) (mCons (mV 5) (mNil))))))) (mNot (mB (mCall 3 F__law_order_right (mCons (mV 3) (mCons (mV 4) (mCons (mV 5) (mNil)))))))) (mRet (mL (.bl false))) (mNx))
  (mSeq (mIfS (mNot (mB (mCall 3 F__law_order_right (mCons (mV 5) (mCons (mV 3) (mCons (mV 4) (mNil))))))) (mRet (mL (.bl false))) (mNx))
  (mSeq (mSet 6 (mLst (mCons (mCall 2 F_plus (mCons (mV 3) (mCons (mV 4) (mNil)))) (mCons (mCall 2 F_minus (mCons (mV 3) (mCons (mV 5) (mNil)))) (mCons (mCall 2 F_times (mCons (mV 4) (mCons (mV 5) (mNil)))) (mNil))))))
  (mSeq (mSet 6 (mOp opAdd (mV 6) (mLst (mCons (mCall 2 F_times (mCons (mV 3) (mCons (mV 3) (mNil)))) (mCons (mCall 2 F_least_of_2 (mCons (mV 3) (mCons (mV 5) (mNil)))) (mNil))))))
  (mSeq (mIfS (mCmp opNe (mComp [7] (mIt (mV 6)) (gN 7) (mCmp opIsNot2 (mCall 1 F_is_fraction (mCons (mV 7) (mNil))) (mL (.bl true))) (mV 7)) (mLst (mNil))) (mRet (mL (.bl false))) (mNx))
  (mIfS (mCmp opNe (mComp [7] (mIt (mV 6)) (gN 7) (mCmp opNe (mCall 1 F_read_fraction (mCons (mCall 1 F_text_of (mCons (mV 7) (mNil))) (mNil))) (mV 7)) (mV 7)) (mLst (mNil))) (mRet (mL (.bl false))) (mNx))))))))))
theorem m_law_eq : m_law = mSeq (mSet 1 (mCall 1 F__law_pen (mCons (mV 0) (mNil)))) (mSeq (mFor (mRg1 (mL (.int 12))) (gN 2) bodyL) (mRet (mL (.bl true)))) := rfl
section
variable {cs : List Int} {N : Int} {store : List Cell}
theorem turn (x : D) (y2 y3 y4 y5 y6 y7 : Slot) (h : Pn 0 cs N store) (hN : N ≤ 700000000) : ∃ z2 z3 z4 z5 z6 z7 store', bodyL ⟨[.sh x, .sh (.obj 0), y2, y3, y4, y5, y6, y7], store⟩ = .nx ⟨[.sh x, .sh (.obj 0), z2, z3, z4, z5, z6, z7], store'⟩ ∧ Pn 0 cs (N + 104) store' := by
  obtain ⟨a, s1, a1, a2, a3⟩ := p_fraction h (by omega)
  obtain ⟨b0, s2, b1, b2, b3⟩ := p_fraction a2 (by omega)
  obtain ⟨c, s3, c1, c2, c3⟩ := p_fraction b2 (by omega)
  obtain ⟨d, s4, d1, d2, d3⟩ := p_pick [fr b0, fr b0, fr a, .tup [.int 0, .int 1]] (by simp) (by simp) c2 (by omega)
  obtain ⟨b, rfl, hb⟩ : ∃ b : Rat, d = fr b ∧ Bd 120 b := by
    simp only [List.mem_cons, List.not_mem_nil, or_false] at d3
    rcases d3 with rfl | rfl | rfl | rfl
    · exact ⟨b0, rfl, b3⟩
    · exact ⟨b0, rfl, b3⟩
    · exact ⟨a, rfl, a3⟩
    · exact ⟨0, rfl, by decide, by decide⟩
  have f1 := s_fields (s := s4) a3 hb c3
  have f2 := s_order (s := s4) a3 hb c3
  have f3 := s_order (s := s4) c3 a3 hb
  have pa : Bk a := a3.mono (by decide)
  have pb : Bk b := hb.mono (by decide)
  have pc : Bk c := c3.mono (by decide)
  have g1 := p_plus (s := s4) pa pb
  have g2 := p_minus (s := s4) pa pc
  have g3 := p_times (s := s4) pb pc
  have g4 := p_times (s := s4) pa pa
  have g5 := s_least2 (s := s4) pa pc
  have lb : Bk (lo a c) := by unfold lo; split <;> assumption
  have w1 : Bk (a + b) := (a3.add hb).mono (by decide)
  have w2 : Bk (a - c) := (a3.sub c3).mono (by decide)
  have w3 : Bk (b * c) := (hb.mul c3).mono (by decide)
  have w4 : Bk (a * a) := (a3.mul a3).mono (by decide)
  have wf : ∀ d ∈ [fr (a + b), fr (a - c), fr (b * c), fr (a * a), fr (lo a c)], ∃ q, d = fr q ∧ Bk q := by
    intro d hd
    simp only [List.mem_cons, List.not_mem_nil, or_false] at hd
    rcases hd with rfl | rfl | rfl | rfl | rfl
    · exact ⟨_, rfl, w1⟩
    · exact ⟨_, rfl, w2⟩
    · exact ⟨_, rfl, w3⟩
    · exact ⟨_, rfl, w4⟩
    · exact ⟨_, rfl, lb⟩
  generalize fr (a + b) = q1 at *
  generalize fr (a - c) = q2 at *
  generalize fr (b * c) = q3 at *
  generalize fr (a * a) = q4 at *
  generalize fr (lo a c) = q5 at *
  have cat : opAdd (.lst [q1, q2, q3]) (.lst [q4, q5]) = some (.ow (.ls [q1, q2, q3, q4, q5])) := by simp [opAdd, lim]
  have isn : opIsNot2 (.bl true) (.bl true) = some false := rfl
  have cu1 : ∀ y7, kCo [7] (gN 7) (mCmp opIsNot2 (mCall 1 F_is_fraction (mCons (mV 7) (mNil))) (mL (.bl true))) (mV 7) [q1, q2, q3, q4, q5] ⟨[.sh x, .sh (.obj 0), y2, .sh (fr a), .sh (fr b), .sh (fr c), .sh (.lst [q1, q2, q3, q4, q5]), y7], s4⟩
      = .ok (.ow (.ls [])) ⟨[.sh x, .sh (.obj 0), y2, .sh (fr a), .sh (fr b), .sh (fr c), .sh (.lst [q1, q2, q3, q4, q5]), .un], s4⟩ := fun y7 => by
    rw [comp_none (by simp [lim]) (by simp)]
    · simp
    · intro d hd
      obtain ⟨q, rfl, hq⟩ := wf d hd
      exact ⟨_, ⟨[.sh x, .sh (.obj 0), y2, .sh (fr a), .sh (fr b), .sh (fr c), .sh (.lst [q1, q2, q3, q4, q5]), .sh (fr q)], s4⟩, rfl, by simp [mV, s_isfr, isn], by simp⟩
  have cu2 : ∀ y7, kCo [7] (gN 7) (mCmp opNe (mCall 1 F_read_fraction (mCons (mCall 1 F_text_of (mCons (mV 7) (mNil))) (mNil))) (mV 7)) (mV 7) [q1, q2, q3, q4, q5] ⟨[.sh x, .sh (.obj 0), y2, .sh (fr a), .sh (fr b), .sh (fr c), .sh (.lst [q1, q2, q3, q4, q5]), y7], s4⟩
      = .ok (.ow (.ls [])) ⟨[.sh x, .sh (.obj 0), y2, .sh (fr a), .sh (fr b), .sh (fr c), .sh (.lst [q1, q2, q3, q4, q5]), .un], s4⟩ := fun y7 => by
    rw [comp_none (by simp [lim]) (by simp)]
    · simp
    · intro d hd
      obtain ⟨q, rfl, hq⟩ := wf d hd
      have t1 := s_text (s := s4) hq (by decide)
      have t2 := s_read (s := s4) hq (by decide)
      exact ⟨_, ⟨[.sh x, .sh (.obj 0), y2, .sh (fr a), .sh (fr b), .sh (fr c), .sh (.lst [q1, q2, q3, q4, q5]), .sh (fr q)], s4⟩, rfl, by simp [mV, t1, t2], by simp⟩
  have e5 : Pn 0 cs (N + 104) s4 := by
    have : N + 32 + 32 + 32 + 8 = N + 104 := by omega
    rw [← this]; exact d2
  refine ⟨y2, .sh (fr a), .sh (fr b), .sh (fr c), .sh (.lst [q1, q2, q3, q4, q5]), .un, s4, ?_, e5⟩
  simp [bodyL, mV, mVar, view_lo, a1, b1, c1, d1, f1, f2, f3, g1, g2, g3, g4, g5, cat, cu1, cu2]
theorem turns (x : D) : ∀ (ds : List D) (N : Int) (y2 y3 y4 y5 y6 y7 : Slot) (store : List Cell), Pn 0 cs N store → N + 104 * ds.length ≤ 600000000 → ∃ st, mForL (gN 2) bodyL ds ⟨[.sh x, .sh (.obj 0), y2, y3, y4, y5, y6, y7], store⟩ = .nx st
  | [], _, _, _, _, _, _, _, _, _, _ => ⟨_, rfl⟩
  | d :: ds, N, y2, y3, y4, y5, y6, y7, store, h, hN => by
    rw [List.length_cons] at hN
    obtain ⟨z2, z3, z4, z5, z6, z7, store', h1, h2⟩ := turn x (.sh d) y3 y4 y5 y6 y7 h (by omega)
    obtain ⟨st, h3⟩ := turns x ds (N + 104) z2 z3 z4 z5 z6 z7 store' h2 (by omega)
    refine ⟨st, ?_⟩
    rw [r_fors]
    simp [h1, h3]
theorem law_true (ns : List Int) (hl : ns.length ≤ 63) (hb : ∀ z ∈ ns, Builtin.Int.intBits z ≤ 1048576) : ∃ st, F_law [.lsF (ns.map .int)] [] = .ret (.sh (.bl true)) st := by
  have p := s_pen ns []
  have h : Pn 0 (ns.take 63) 0 [.dc (pen (ns.take 63) 0 0)] := ⟨by rw [List.length_take]; omega, 0, 0, rfl, by omega, by omega, by omega⟩
  obtain ⟨st, ht⟩ := turns (.lsF (ns.map .int)) (rng 0 12) 0 .un .un .un .un .un .un _ h (by simp [rng])
  refine ⟨st.store, ?_⟩
  rw [List.nil_append, List.length_nil] at p
  have e12 : (12 : Int).toNat = 12 := rfl
  have sm : small 12 = true := by decide
  unfold F_law
  rw [m_law_eq]
  simp [runF, entry, mV, p, sm, e12, ht]
end
end A04

set_option Elab.async false
set_option linter.all false
set_option maxRecDepth 100000
set_option maxHeartbeats 4000000
namespace A04
open PySem PySem.Spec L2 PM
def top (i : Nat) : Stmt := PySem.Challenge.pw_pactroads_k04_whole_rules_of_fractions.main.body.getD i (.Pass ⟨0, 0, 0, 0⟩)
abbrev tp__law_pen : Stmt := top 27
def d__law_pen : He.DefD := ⟨("_law_pen", none), "_law_pen", "_law_pen", defArgs tp__law_pen, defBody tp__law_pen, defScope tp__law_pen, [], []⟩
abbrev tp__law_draw : Stmt := top 28
def d__law_draw : He.DefD := ⟨("_law_draw", none), "_law_draw", "_law_draw", defArgs tp__law_draw, defBody tp__law_draw, defScope tp__law_draw, [], []⟩
abbrev tp__law_pick : Stmt := top 29
def d__law_pick : He.DefD := ⟨("_law_pick", none), "_law_pick", "_law_pick", defArgs tp__law_pick, defBody tp__law_pick, defScope tp__law_pick, [], []⟩
abbrev tp__law_low : Stmt := top 30
def d__law_low : He.DefD := ⟨("_law_low", none), "_law_low", "_law_low", defArgs tp__law_low, defBody tp__law_low, defScope tp__law_low, [], []⟩
abbrev tp__law_integer : Stmt := top 31
def d__law_integer : He.DefD := ⟨("_law_integer", none), "_law_integer", "_law_integer", defArgs tp__law_integer, defBody tp__law_integer, defScope tp__law_integer, [], []⟩
abbrev tp__law_fraction : Stmt := top 32
def d__law_fraction : He.DefD := ⟨("_law_fraction", none), "_law_fraction", "_law_fraction", defArgs tp__law_fraction, defBody tp__law_fraction, defScope tp__law_fraction, [], []⟩
abbrev tp_is_less : Stmt := top 16
def d_is_less : He.DefD := ⟨("is_less", none), "is_less", "is_less", defArgs tp_is_less, defBody tp_is_less, defScope tp_is_less, [], []⟩
abbrev tp_least_of : Stmt := top 18
def d_least_of : He.DefD := ⟨("least_of", none), "least_of", "least_of", defArgs tp_least_of, defBody tp_least_of, defScope tp_least_of, [], []⟩
abbrev tp_greatest_of : Stmt := top 19
def d_greatest_of : He.DefD := ⟨("greatest_of", none), "greatest_of", "greatest_of", defArgs tp_greatest_of, defBody tp_greatest_of, defScope tp_greatest_of, [], []⟩
abbrev tp_divisor : Stmt := top 10
def d_divisor : He.DefD := ⟨("divisor", none), "divisor", "divisor", defArgs tp_divisor, defBody tp_divisor, defScope tp_divisor, [], []⟩
abbrev tp_reduced : Stmt := top 11
def d_reduced : He.DefD := ⟨("reduced", none), "reduced", "reduced", defArgs tp_reduced, defBody tp_reduced, defScope tp_reduced, [], []⟩
abbrev tp_plus : Stmt := top 12
def d_plus : He.DefD := ⟨("plus", none), "plus", "plus", defArgs tp_plus, defBody tp_plus, defScope tp_plus, [], []⟩
abbrev tp_minus : Stmt := top 13
def d_minus : He.DefD := ⟨("minus", none), "minus", "minus", defArgs tp_minus, defBody tp_minus, defScope tp_minus, [], []⟩
abbrev tp_times : Stmt := top 14
def d_times : He.DefD := ⟨("times", none), "times", "times", defArgs tp_times, defBody tp_times, defScope tp_times, [], []⟩
abbrev tp__law_order_right : Stmt := top 34
def d__law_order_right : He.DefD := ⟨("_law_order_right", none), "_law_order_right", "_law_order_right", defArgs tp__law_order_right, defBody tp__law_order_right, defScope tp__law_order_right, [], []⟩
abbrev tp_over : Stmt := top 15
def d_over : He.DefD := ⟨("over", none), "over", "over", defArgs tp_over, defBody tp_over, defScope tp_over, [], []⟩
abbrev tp__law_fields_right : Stmt := top 33
def d__law_fields_right : He.DefD := ⟨("_law_fields_right", none), "_law_fields_right", "_law_fields_right", defArgs tp__law_fields_right, defBody tp__law_fields_right, defScope tp__law_fields_right, [], []⟩
abbrev tp_is_tuple_of : Stmt := top 5
def d_is_tuple_of : He.DefD := ⟨("is_tuple_of", none), "is_tuple_of", "is_tuple_of", defArgs tp_is_tuple_of, defBody tp_is_tuple_of, defScope tp_is_tuple_of, [], []⟩
abbrev tp_is_integer : Stmt := top 4
def d_is_integer : He.DefD := ⟨("is_integer", none), "is_integer", "is_integer", defArgs tp_is_integer, defBody tp_is_integer, defScope tp_is_integer, [], []⟩
abbrev tp_is_fraction : Stmt := top 17
def d_is_fraction : He.DefD := ⟨("is_fraction", none), "is_fraction", "is_fraction", defArgs tp_is_fraction, defBody tp_is_fraction, defScope tp_is_fraction, [], []⟩
abbrev tp_number_of : Stmt := top 22
def d_number_of : He.DefD := ⟨("number_of", none), "number_of", "number_of", defArgs tp_number_of, defBody tp_number_of, defScope tp_number_of, [], []⟩
abbrev tp_number_in : Stmt := top 23
def d_number_in : He.DefD := ⟨("number_in", none), "number_in", "number_in", defArgs tp_number_in, defBody tp_number_in, defScope tp_number_in, [], []⟩
abbrev tp_fraction_in : Stmt := top 24
def d_fraction_in : He.DefD := ⟨("fraction_in", none), "fraction_in", "fraction_in", defArgs tp_fraction_in, defBody tp_fraction_in, defScope tp_fraction_in, [], []⟩
abbrev tp_read_fraction : Stmt := top 25
def d_read_fraction : He.DefD := ⟨("read_fraction", none), "read_fraction", "read_fraction", defArgs tp_read_fraction, defBody tp_read_fraction, defScope tp_read_fraction, [], []⟩
abbrev tp_digits_of : Stmt := top 20
def d_digits_of : He.DefD := ⟨("digits_of", none), "digits_of", "digits_of", defArgs tp_digits_of, defBody tp_digits_of, defScope tp_digits_of, [], []⟩
abbrev tp_text_of : Stmt := top 21
def d_text_of : He.DefD := ⟨("text_of", none), "text_of", "text_of", defArgs tp_text_of, defBody tp_text_of, defScope tp_text_of, [], []⟩
abbrev tp_law : Stmt := top 35
def d_law : He.DefD := ⟨("law", none), "law", "law", defArgs tp_law, defBody tp_law, defScope tp_law, [], []⟩
def fn : List He.DefD := [d__law_pen, d__law_draw, d__law_pick, d__law_low, d__law_integer, d__law_fraction, d_is_less, d_least_of, d_greatest_of, d_divisor, d_reduced, d_plus, d_minus, d_times, d__law_order_right, d_over, d__law_fields_right, d_is_tuple_of, d_is_integer, d_is_fraction, d_number_of, d_number_in, d_fraction_in, d_read_fraction, d_digits_of, d_text_of, d_law]
def fa : List He.Fa := ([.glo "_law_pen", .glo "_law_draw", .glo "_law_pick", .glo "_law_low", .glo "_law_integer", .glo "_law_fraction", .glo "is_less", .glo "least_of", .glo "greatest_of", .glo "divisor", .glo "reduced", .glo "plus", .glo "minus", .glo "times", .glo "_law_order_right", .glo "over", .glo "_law_fields_right", .glo "is_tuple_of", .glo "is_integer", .glo "is_fraction", .glo "number_of", .glo "number_in", .glo "fraction_in", .glo "read_fraction", .glo "digits_of", .glo "text_of", .glo "law", .free "list", .free "len", .free "abs"] : List He.Fa) ++ ([.free "tuple", .free "isinstance", .free "int", .free "bool", .free "range", .free "all", .free "str", .int "PIECE" 60, .int "WEIGHT" 1000000000000000000000000000000000000000000000000000000000000, .str "DIGITS" "0123456789", .keep "_law_pen", .keep "_law_draw", .keep "_law_pick", .keep "_law_low", .keep "_law_integer", .keep "_law_fraction", .keep "is_less", .keep "least_of", .keep "greatest_of", .keep "divisor", .keep "reduced", .keep "plus", .keep "minus", .keep "times", .keep "_law_order_right", .keep "over", .keep "_law_fields_right", .keep "is_tuple_of", .keep "is_integer", .keep "is_fraction"] : List He.Fa) ++ ([.keep "number_of", .keep "number_in", .keep "fraction_in", .keep "read_fraction", .keep "digits_of", .keep "text_of", .keep "law"] : List He.Fa)
theorem sc__law_pen : FnScope ["_law_script"] ["_law_script"] (defScope tp__law_pen) := ⟨rfl, rfl, rfl, by decide +kernel, rfl, by decide +kernel, by decide +kernel⟩
theorem sc__law_draw : FnScope ["_law_pen_here", "_law_many", "_law_digit", "_law_used", "_law_cell", "_law_blend"] ["_law_pen_here", "_law_many"] (defScope tp__law_draw) := ⟨rfl, rfl, rfl, by decide +kernel, rfl, by decide +kernel, by decide +kernel⟩
theorem sc__law_pick : FnScope ["_law_pen_here", "_law_options"] ["_law_pen_here", "_law_options"] (defScope tp__law_pick) := ⟨rfl, rfl, rfl, by decide +kernel, rfl, by decide +kernel, by decide +kernel⟩
theorem sc__law_low : FnScope ["_law_n", "_law_d", "_law_one", "_law_other"] ["_law_n", "_law_d"] (defScope tp__law_low) := ⟨rfl, rfl, rfl, by decide +kernel, rfl, by decide +kernel, by decide +kernel⟩
theorem sc__law_integer : FnScope ["_law_pen_here", "_law_bound"] ["_law_pen_here", "_law_bound"] (defScope tp__law_integer) := ⟨rfl, rfl, rfl, by decide +kernel, rfl, by decide +kernel, by decide +kernel⟩
theorem sc__law_fraction : FnScope ["_law_pen_here", "_law_bound"] ["_law_pen_here"] (defScope tp__law_fraction) := ⟨rfl, rfl, rfl, by decide +kernel, rfl, by decide +kernel, by decide +kernel⟩
theorem sc_is_less : FnScope ["one", "other"] ["one", "other"] (defScope tp_is_less) := ⟨rfl, rfl, rfl, by decide +kernel, rfl, by decide +kernel, by decide +kernel⟩
theorem sc_least_of : FnScope ["first", "others", "found", "other"] ["first", "others"] (defScope tp_least_of) := ⟨rfl, rfl, rfl, by decide +kernel, rfl, by decide +kernel, by decide +kernel⟩
theorem sc_greatest_of : FnScope ["first", "others", "found", "other"] ["first", "others"] (defScope tp_greatest_of) := ⟨rfl, rfl, rfl, by decide +kernel, rfl, by decide +kernel, by decide +kernel⟩
theorem sc_divisor : FnScope ["one", "other"] ["one", "other"] (defScope tp_divisor) := ⟨rfl, rfl, rfl, by decide +kernel, rfl, by decide +kernel, by decide +kernel⟩
theorem sc_reduced : FnScope ["n", "d", "shared"] ["n", "d"] (defScope tp_reduced) := ⟨rfl, rfl, rfl, by decide +kernel, rfl, by decide +kernel, by decide +kernel⟩
theorem sc_plus : FnScope ["one", "other"] ["one", "other"] (defScope tp_plus) := ⟨rfl, rfl, rfl, by decide +kernel, rfl, by decide +kernel, by decide +kernel⟩
theorem sc_minus : FnScope ["one", "other"] ["one", "other"] (defScope tp_minus) := ⟨rfl, rfl, rfl, by decide +kernel, rfl, by decide +kernel, by decide +kernel⟩
theorem sc_times : FnScope ["one", "other"] ["one", "other"] (defScope tp_times) := ⟨rfl, rfl, rfl, by decide +kernel, rfl, by decide +kernel, by decide +kernel⟩
theorem sc__law_order_right : FnScope ["_law_a", "_law_b", "_law_c", "_law_low_here", "_law_high", "_law_one"] ["_law_a", "_law_b", "_law_c"] (defScope tp__law_order_right) := ⟨rfl, rfl, rfl, by decide +kernel, rfl, by decide +kernel, by decide +kernel⟩
theorem sc_over : FnScope ["one", "other"] ["one", "other"] (defScope tp_over) := ⟨rfl, rfl, rfl, by decide +kernel, rfl, by decide +kernel, by decide +kernel⟩
theorem sc__law_fields_right : FnScope ["_law_a", "_law_b", "_law_c"] ["_law_a", "_law_b", "_law_c"] (defScope tp__law_fields_right) := ⟨rfl, rfl, rfl, by decide +kernel, rfl, by decide +kernel, by decide +kernel⟩
theorem sc_is_tuple_of : FnScope ["value", "size"] ["value", "size"] (defScope tp_is_tuple_of) := ⟨rfl, rfl, rfl, by decide +kernel, rfl, by decide +kernel, by decide +kernel⟩
theorem sc_is_integer : FnScope ["value"] ["value"] (defScope tp_is_integer) := ⟨rfl, rfl, rfl, by decide +kernel, rfl, by decide +kernel, by decide +kernel⟩
theorem sc_is_fraction : FnScope ["value"] ["value"] (defScope tp_is_fraction) := ⟨rfl, rfl, rfl, by decide +kernel, rfl, by decide +kernel, by decide +kernel⟩
theorem sc_number_of : FnScope ["digits", "first", "found", "place"] ["digits"] (defScope tp_number_of) := ⟨rfl, rfl, rfl, by decide +kernel, rfl, by decide +kernel, by decide +kernel⟩
theorem sc_number_in : FnScope ["word", "digits", "sign"] ["word"] (defScope tp_number_in) := ⟨rfl, rfl, rfl, by decide +kernel, rfl, by decide +kernel, by decide +kernel⟩
theorem sc_fraction_in : FnScope ["word", "upper", "stroke", "lower", "n", "d"] ["word"] (defScope tp_fraction_in) := ⟨rfl, rfl, rfl, by decide +kernel, rfl, by decide +kernel, by decide +kernel⟩
theorem sc_read_fraction : FnScope ["text", "found"] ["text"] (defScope tp_read_fraction) := ⟨rfl, rfl, rfl, by decide +kernel, rfl, by decide +kernel, by decide +kernel⟩
theorem sc_digits_of : FnScope ["number", "left", "found"] ["number"] (defScope tp_digits_of) := ⟨rfl, rfl, rfl, by decide +kernel, rfl, by decide +kernel, by decide +kernel⟩
theorem sc_text_of : FnScope ["one"] ["one"] (defScope tp_text_of) := ⟨rfl, rfl, rfl, by decide +kernel, rfl, by decide +kernel, by decide +kernel⟩
theorem sc_law : FnScope ["_law_script", "_law_pen_here", "_law_turn", "_law_a", "_law_b", "_law_c", "_law_some", "_law_one"] ["_law_script"] (defScope tp_law) := ⟨rfl, rfl, rfl, by decide +kernel, rfl, by decide +kernel, by decide +kernel⟩
section
variable {P : Program} {w : World} {K : PySem.W.Frag} {mg : Str → Option Value} {base h : Heap}
theorem ok__law_pen (hX : K.In h) (hG : h.Ns mainGlobals mg) (hc : He.SaysD fa fn K) : FnC P w K mg base 1 (He.ga K "_law_pen") 1 [] F__law_pen := by
  have z_list := He.free_ok hX hG (hc.fact 27 (f := .free "list") rfl)
  obtain ⟨fd, F⟩ := hc.def_ 0 (d := d__law_pen) rfl
  refine fn_p F sc__law_pen rfl (fun _ _ _ _ _ _ us hl => match us, hl with | [_], _ => rfl) (fun cdv A outer s H Ee E hr hg tk => ?_)
  have hN := sc__law_pen.nd
  have hu := hu_of hr
  have hq := hq_of hr
  have hi := hi_of hr
  exact ss_one (ss_ret (sr_new (sr_disp (spr_cons (sr_str) (sr_t1 cl_list (by rfl) z_list PyProof.Rows.boot_list (sr_sl (sr_v 0) (sp_no) (sp_pt (sr_int)))) (spr_cons (sr_str) (sr_int) (spr_cons (sr_str) (sr_int) (spr_nil)))))))
theorem ok__law_draw (hX : K.In h) (hG : h.Ns mainGlobals mg) (hc : He.SaysD fa fn K) : ∀ n, FnC P w K mg base (1 + n) (He.ga K "_law_draw") 2 [] (F__law_draw n)
  | 0 => FnC.stuck
  | n + 1 => by
    have q__law_draw := He.glo_ok hX hG (hc.fact 1 (f := .glo "_law_draw") rfl)
    have k__law_draw : PySem.W.keepIn K (.ref (He.ga K "_law_draw")) = true := hc.fact 41 (f := .keep "_law_draw") rfl
    have z_len := He.free_ok hX hG (hc.fact 28 (f := .free "len") rfl)
    have z_abs := He.free_ok hX hG (hc.fact 29 (f := .free "abs") rfl)
    have hrec := ok__law_draw hX hG hc n
    obtain ⟨fd, F⟩ := hc.def_ 1 (d := d__law_draw) rfl
    refine fn_p F sc__law_draw rfl (fun _ _ _ _ _ _ us hl => match us, hl with | [_, _], _ => rfl) (fun cdv A outer s H Ee E hr hg tk => ?_)
    have hN := sc__law_draw.nd
    have hu := hu_of hr
    have hq := hq_of hr
    have hi := hi_of hr
    exact ss_cons (ss_if (st_cmp ob_gt (sr_ix hu (sr_v 0) (sr_str)) (sr_int) (by rfl)) (ss_cons (ss_set 2 hN (sr_op os_mod (sr_ix hu (sr_v 0) (sr_str)) (sr_v 1)))
          (ss_cons (ss_put hu (sr_v 0) (sr_str) (sr_op os_fdv (sr_ix hu (sr_v 0) (sr_str)) (sr_v 1)))
          (ss_one (ss_ret (sr_v 2))))) (ss_nil))
          (ss_cons (ss_set 3 hN (sr_ix hu (sr_v 0) (sr_str)))
          (ss_cons (ss_put hu (sr_v 0) (sr_str) (sr_op os_add (sr_v 3) (sr_int)))
          (ss_cons (ss_set 4 hN (sr_op os_add (sr_op os_mul (sr_int) (sr_v 3)) (sr_int)))
          (ss_cons (ss_if (st_cmp (ob_ne hq) (sr_ix hu (sr_v 0) (sr_str)) (sr_lst (sa_nil)) (by rfl)) (ss_one (ss_set 4 hN (sr_ix hu (sr_ix hu (sr_v 0) (sr_str)) (sr_op os_mod (sr_v 3) (sr_b1 cl_len (by rfl) z_len boot_len (sr_ix hu (sr_v 0) (sr_str))))))) (ss_nil))
          (ss_cons (ss_if (PW.pt (sw_and (st_cmp ob_lt (sr_v 3) (sr_b1 cl_len (by rfl) z_len boot_len (sr_ix hu (sr_v 0) (sr_str))) (by rfl)) (sw_and1 (st_cmp ob_ge (sr_b1 cl_abs (by rfl) z_abs PyProof.Rows.boot_abs (sr_v 4)) (sr_op os_pow (sr_int) (sr_int)) (by rfl))))) (ss_cons (ss_put hu (sr_v 0) (sr_str) (sr_op os_fdv (sr_op os_sub (sr_b1 cl_abs (by rfl) z_abs PyProof.Rows.boot_abs (sr_v 4)) (sr_op os_pow (sr_int) (sr_int))) (sr_v 1)))
          (ss_one (ss_ret (sr_op os_mod (sr_op os_sub (sr_b1 cl_abs (by rfl) z_abs PyProof.Rows.boot_abs (sr_v 4)) (sr_op os_pow (sr_int) (sr_int))) (sr_v 1))))) (ss_nil))
          (ss_cons (ss_set 5 hN (sr_op os_add (sr_op os_mul (sr_op os_mod (sr_v 4) (sr_int)) (sr_int)) (sr_op os_mul (sr_op os_mul (sr_int) (sr_v 3)) (sr_v 3))))
          (ss_cons (ss_set 5 hN (sr_op os_mod (sr_op os_add (sr_op os_add (sr_v 5) (sr_op os_mul (sr_int) (sr_v 3))) (sr_int)) (sr_int)))
          (ss_cons (ss_set 5 hN (sr_op os_mod (sr_op os_add (sr_op os_add (sr_op os_add (sr_op os_mul (sr_v 5) (sr_v 5)) (sr_op os_mul (sr_int) (sr_v 5))) (sr_op os_mul (sr_int) (sr_v 3))) (sr_int)) (sr_int)))
          (ss_cons (ss_set 5 hN (sr_op os_fdv (sr_op os_mod (sr_op os_mul (sr_v 5) (sr_op os_add (sr_v 5) (sr_int))) (sr_int)) (sr_int)))
          (ss_cons (ss_if (st_cmp ob_gt (sr_v 1) (sr_int) (by rfl)) (ss_one (ss_set 5 hN (sr_op os_add (sr_v 5) (sr_op os_mul (sr_int) (sr_call hrec (hr.mono (by first | decide | exact Nat.le_refl _)) hg tk (by rfl) q__law_draw k__law_draw (sa_cons (sr_v 0) (sa_cons (sr_op os_add (sr_op os_fdv (sr_v 1) (sr_int)) (sr_int)) (sa_nil)))))))) (ss_nil))
          (ss_one (ss_ret (sr_op os_mod (sr_v 5) (sr_v 1))))))))))))))
theorem ok__law_pick (hX : K.In h) (hG : h.Ns mainGlobals mg) (hc : He.SaysD fa fn K) : FnC P w K mg base 10 (He.ga K "_law_pick") 2 [] F__law_pick := by
  have q__law_draw := He.glo_ok hX hG (hc.fact 1 (f := .glo "_law_draw") rfl)
  have k__law_draw : PySem.W.keepIn K (.ref (He.ga K "_law_draw")) = true := hc.fact 41 (f := .keep "_law_draw") rfl
  have z_len := He.free_ok hX hG (hc.fact 28 (f := .free "len") rfl)
  have o__law_draw := ok__law_draw (P := P) (w := w) (base := base) hX hG hc 8
  obtain ⟨fd, F⟩ := hc.def_ 2 (d := d__law_pick) rfl
  refine fn_p F sc__law_pick rfl (fun _ _ _ _ _ _ us hl => match us, hl with | [_, _], _ => rfl) (fun cdv A outer s H Ee E hr hg tk => ?_)
  have hN := sc__law_pick.nd
  have hu := hu_of hr
  have hq := hq_of hr
  have hi := hi_of hr
  exact ss_one (ss_ret (sr_ix hu (sr_v 1) (sr_call o__law_draw (hr.mono (by decide)) hg tk (by rfl) q__law_draw k__law_draw (sa_cons (sr_v 0) (sa_cons (sr_b1 cl_len (by rfl) z_len boot_len (sr_v 1)) (sa_nil))))))
theorem ok__law_low (hX : K.In h) (hG : h.Ns mainGlobals mg) (hc : He.SaysD fa fn K) : FnC P w K mg base 1 (He.ga K "_law_low") 2 [] F__law_low := by
  have z_abs := He.free_ok hX hG (hc.fact 29 (f := .free "abs") rfl)
  obtain ⟨fd, F⟩ := hc.def_ 3 (d := d__law_low) rfl
  refine fn_p F sc__law_low rfl (fun _ _ _ _ _ _ us hl => match us, hl with | [_, _], _ => rfl) (fun cdv A outer s H Ee E hr hg tk => ?_)
  have hN := sc__law_low.nd
  have hu := hu_of hr
  have hq := hq_of hr
  have hi := hi_of hr
  exact ss_cons (ss_par 2 3 rfl hN (sr_b1 cl_abs (by rfl) z_abs PyProof.Rows.boot_abs (sr_v 0)) (sr_b1 cl_abs (by rfl) z_abs PyProof.Rows.boot_abs (sr_v 1)))
          (ss_cons (ss_while (fun st => natAt st 3 + 1) (passes_of rfl) (st_cmp ob_gt (sr_v 3) (sr_int) (by rfl)) (ss_one (ss_par 2 3 rfl hN (sr_v 3) (sr_op os_mod (sr_v 2) (sr_v 3)))))
          (ss_cons (ss_set 2 hN (sr_if (st_cmp ob_gt (sr_v 1) (sr_int) (by rfl)) (sr_v 2) (sr_un us_neg (sr_v 2))))
          (ss_one (ss_ret (sr_tup (sa_cons (sr_op os_fdv (sr_v 0) (sr_v 2)) (sa_cons (sr_op os_fdv (sr_v 1) (sr_v 2)) (sa_nil))))))))
theorem ok__law_integer (hX : K.In h) (hG : h.Ns mainGlobals mg) (hc : He.SaysD fa fn K) : FnC P w K mg base 10 (He.ga K "_law_integer") 2 [] F__law_integer := by
  have q__law_draw := He.glo_ok hX hG (hc.fact 1 (f := .glo "_law_draw") rfl)
  have k__law_draw : PySem.W.keepIn K (.ref (He.ga K "_law_draw")) = true := hc.fact 41 (f := .keep "_law_draw") rfl
  have o__law_draw := ok__law_draw (P := P) (w := w) (base := base) hX hG hc 8
  obtain ⟨fd, F⟩ := hc.def_ 4 (d := d__law_integer) rfl
  refine fn_p F sc__law_integer rfl (fun _ _ _ _ _ _ us hl => match us, hl with | [_, _], _ => rfl) (fun cdv A outer s H Ee E hr hg tk => ?_)
  have hN := sc__law_integer.nd
  have hu := hu_of hr
  have hq := hq_of hr
  have hi := hi_of hr
  exact ss_one (ss_ret (sr_op os_sub (sr_call o__law_draw (hr.mono (by decide)) hg tk (by rfl) q__law_draw k__law_draw (sa_cons (sr_v 0) (sa_cons (sr_op os_add (sr_op os_mul (sr_int) (sr_v 1)) (sr_int)) (sa_nil)))) (sr_v 1)))
theorem ok__law_fraction (hX : K.In h) (hG : h.Ns mainGlobals mg) (hc : He.SaysD fa fn K) : FnC P w K mg base 11 (He.ga K "_law_fraction") 1 [] F__law_fraction := by
  have q__law_pick := He.glo_ok hX hG (hc.fact 2 (f := .glo "_law_pick") rfl)
  have k__law_pick : PySem.W.keepIn K (.ref (He.ga K "_law_pick")) = true := hc.fact 42 (f := .keep "_law_pick") rfl
  have q__law_low := He.glo_ok hX hG (hc.fact 3 (f := .glo "_law_low") rfl)
  have k__law_low : PySem.W.keepIn K (.ref (He.ga K "_law_low")) = true := hc.fact 43 (f := .keep "_law_low") rfl
  have q__law_draw := He.glo_ok hX hG (hc.fact 1 (f := .glo "_law_draw") rfl)
  have k__law_draw : PySem.W.keepIn K (.ref (He.ga K "_law_draw")) = true := hc.fact 41 (f := .keep "_law_draw") rfl
  have q__law_integer := He.glo_ok hX hG (hc.fact 4 (f := .glo "_law_integer") rfl)
  have k__law_integer : PySem.W.keepIn K (.ref (He.ga K "_law_integer")) = true := hc.fact 44 (f := .keep "_law_integer") rfl
  have o__law_draw := ok__law_draw (P := P) (w := w) (base := base) hX hG hc 8
  have o__law_integer := ok__law_integer (P := P) (w := w) (base := base) hX hG hc
  have o__law_low := ok__law_low (P := P) (w := w) (base := base) hX hG hc
  have o__law_pick := ok__law_pick (P := P) (w := w) (base := base) hX hG hc
  obtain ⟨fd, F⟩ := hc.def_ 5 (d := d__law_fraction) rfl
  refine fn_p F sc__law_fraction rfl (fun _ _ _ _ _ _ us hl => match us, hl with | [_], _ => rfl) (fun cdv A outer s H Ee E hr hg tk => ?_)
  have hN := sc__law_fraction.nd
  have hu := hu_of hr
  have hq := hq_of hr
  have hi := hi_of hr
  exact ss_cons (ss_set 1 hN (sr_call o__law_pick (hr.mono (by decide)) hg tk (by rfl) q__law_pick k__law_pick (sa_cons (sr_v 0) (sa_cons (sr_lst (sa_cons (sr_int) (sa_cons (sr_int) (sa_cons (sr_int) (sa_cons (sr_op os_pow (sr_int) (sr_int)) (sa_nil)))))) (sa_nil)))))
          (ss_one (ss_ret (sr_call o__law_low (hr.mono (by decide)) hg tk (by rfl) q__law_low k__law_low (sa_cons (sr_call o__law_integer (hr.mono (by decide)) hg tk (by rfl) q__law_integer k__law_integer (sa_cons (sr_v 0) (sa_cons (sr_v 1) (sa_nil)))) (sa_cons (sr_op os_add (sr_int) (sr_call o__law_draw (hr.mono (by decide)) hg tk (by rfl) q__law_draw k__law_draw (sa_cons (sr_v 0) (sa_cons (sr_call o__law_pick (hr.mono (by decide)) hg tk (by rfl) q__law_pick k__law_pick (sa_cons (sr_v 0) (sa_cons (sr_lst (sa_cons (sr_int) (sa_cons (sr_int) (sa_cons (sr_v 1) (sa_nil))))) (sa_nil)))) (sa_nil))))) (sa_nil))))))
theorem ok_is_less (hX : K.In h) (hG : h.Ns mainGlobals mg) (hc : He.SaysD fa fn K) : FnC P w K mg base 1 (He.ga K "is_less") 2 [] F_is_less := by
  obtain ⟨fd, F⟩ := hc.def_ 6 (d := d_is_less) rfl
  refine fn_p F sc_is_less rfl (fun _ _ _ _ _ _ us hl => match us, hl with | [_, _], _ => rfl) (fun cdv A outer s H Ee E hr hg tk => ?_)
  have hN := sc_is_less.nd
  have hu := hu_of hr
  have hq := hq_of hr
  have hi := hi_of hr
  exact ss_one (ss_ret (sr_cmp ob_lt (sr_op os_mul (sr_ix hu (sr_v 0) (sr_int)) (sr_ix hu (sr_v 1) (sr_int))) (sr_op os_mul (sr_ix hu (sr_v 1) (sr_int)) (sr_ix hu (sr_v 0) (sr_int))) (by rfl)))
theorem ok_least_of_2 (hX : K.In h) (hG : h.Ns mainGlobals mg) (hc : He.SaysD fa fn K) : FnC P w K mg base 2 (He.ga K "least_of") 2 [] F_least_of_2 := by
  have q_is_less := He.glo_ok hX hG (hc.fact 6 (f := .glo "is_less") rfl)
  have k_is_less : PySem.W.keepIn K (.ref (He.ga K "is_less")) = true := hc.fact 46 (f := .keep "is_less") rfl
  have o_is_less := ok_is_less (P := P) (w := w) (base := base) hX hG hc
  obtain ⟨fd, F⟩ := hc.def_ 7 (d := d_least_of) rfl
  refine fn_s (ps := ["first"]) F sc_least_of (by decide) (by decide) (fun _ _ _ _ _ _ us rest hl => match us, rest, hl with | [_], [], _ => rfl | [_], _ :: _, _ => rfl) (fun cdv A outer s H Ee E hr hg tk => ?_)
  have hN := sc_least_of.nd
  have hu := hu_of hr
  have hq := hq_of hr
  have hi := hi_of hr
  exact ss_cons (ss_set 2 hN (sr_v 0))
          (ss_cons (ss_for (passes_of rfl) rfl (si_seq (sr_v 1)) (sg_n 3 hN) (ss_one (ss_if (st_B (sr_call o_is_less (hr.mono (by decide)) hg tk (by rfl) q_is_less k_is_less (sa_cons (sr_v 3) (sa_cons (sr_v 2) (sa_nil))))) (ss_one (ss_set 2 hN (sr_v 3))) (ss_nil))))
          (ss_one (ss_ret (sr_v 2))))
theorem ok_least_of_3 (hX : K.In h) (hG : h.Ns mainGlobals mg) (hc : He.SaysD fa fn K) : FnC P w K mg base 2 (He.ga K "least_of") 3 [] F_least_of_3 := by
  have q_is_less := He.glo_ok hX hG (hc.fact 6 (f := .glo "is_less") rfl)
  have k_is_less : PySem.W.keepIn K (.ref (He.ga K "is_less")) = true := hc.fact 46 (f := .keep "is_less") rfl
  have o_is_less := ok_is_less (P := P) (w := w) (base := base) hX hG hc
  obtain ⟨fd, F⟩ := hc.def_ 7 (d := d_least_of) rfl
  refine fn_s (ps := ["first"]) F sc_least_of (by decide) (by decide) (fun _ _ _ _ _ _ us rest hl => match us, rest, hl with | [_], [], _ => rfl | [_], _ :: _, _ => rfl) (fun cdv A outer s H Ee E hr hg tk => ?_)
  have hN := sc_least_of.nd
  have hu := hu_of hr
  have hq := hq_of hr
  have hi := hi_of hr
  exact ss_cons (ss_set 2 hN (sr_v 0))
          (ss_cons (ss_for (passes_of rfl) rfl (si_seq (sr_v 1)) (sg_n 3 hN) (ss_one (ss_if (st_B (sr_call o_is_less (hr.mono (by decide)) hg tk (by rfl) q_is_less k_is_less (sa_cons (sr_v 3) (sa_cons (sr_v 2) (sa_nil))))) (ss_one (ss_set 2 hN (sr_v 3))) (ss_nil))))
          (ss_one (ss_ret (sr_v 2))))
theorem ok_greatest_of_3 (hX : K.In h) (hG : h.Ns mainGlobals mg) (hc : He.SaysD fa fn K) : FnC P w K mg base 2 (He.ga K "greatest_of") 3 [] F_greatest_of_3 := by
  have q_is_less := He.glo_ok hX hG (hc.fact 6 (f := .glo "is_less") rfl)
  have k_is_less : PySem.W.keepIn K (.ref (He.ga K "is_less")) = true := hc.fact 46 (f := .keep "is_less") rfl
  have o_is_less := ok_is_less (P := P) (w := w) (base := base) hX hG hc
  obtain ⟨fd, F⟩ := hc.def_ 8 (d := d_greatest_of) rfl
  refine fn_s (ps := ["first"]) F sc_greatest_of (by decide) (by decide) (fun _ _ _ _ _ _ us rest hl => match us, rest, hl with | [_], [], _ => rfl | [_], _ :: _, _ => rfl) (fun cdv A outer s H Ee E hr hg tk => ?_)
  have hN := sc_greatest_of.nd
  have hu := hu_of hr
  have hq := hq_of hr
  have hi := hi_of hr
  exact ss_cons (ss_set 2 hN (sr_v 0))
          (ss_cons (ss_for (passes_of rfl) rfl (si_seq (sr_v 1)) (sg_n 3 hN) (ss_one (ss_if (st_B (sr_call o_is_less (hr.mono (by decide)) hg tk (by rfl) q_is_less k_is_less (sa_cons (sr_v 2) (sa_cons (sr_v 3) (sa_nil))))) (ss_one (ss_set 2 hN (sr_v 3))) (ss_nil))))
          (ss_one (ss_ret (sr_v 2))))
theorem ok_divisor (hX : K.In h) (hG : h.Ns mainGlobals mg) (hc : He.SaysD fa fn K) : FnC P w K mg base 1 (He.ga K "divisor") 2 [] F_divisor := by
  have z_abs := He.free_ok hX hG (hc.fact 29 (f := .free "abs") rfl)
  obtain ⟨fd, F⟩ := hc.def_ 9 (d := d_divisor) rfl
  refine fn_p F sc_divisor rfl (fun _ _ _ _ _ _ us hl => match us, hl with | [_, _], _ => rfl) (fun cdv A outer s H Ee E hr hg tk => ?_)
  have hN := sc_divisor.nd
  have hu := hu_of hr
  have hq := hq_of hr
  have hi := hi_of hr
  exact ss_cons (ss_par 0 1 rfl hN (sr_b1 cl_abs (by rfl) z_abs PyProof.Rows.boot_abs (sr_v 0)) (sr_b1 cl_abs (by rfl) z_abs PyProof.Rows.boot_abs (sr_v 1)))
          (ss_cons (ss_while (fun st => natAt st 1 + 1) (passes_of rfl) (st_cmp ob_gt (sr_v 1) (sr_int) (by rfl)) (ss_one (ss_par 0 1 rfl hN (sr_v 1) (sr_op os_mod (sr_v 0) (sr_v 1)))))
          (ss_one (ss_ret (sr_v 0))))
theorem ok_reduced (hX : K.In h) (hG : h.Ns mainGlobals mg) (hc : He.SaysD fa fn K) : FnC P w K mg base 2 (He.ga K "reduced") 2 [] F_reduced := by
  have q_divisor := He.glo_ok hX hG (hc.fact 9 (f := .glo "divisor") rfl)
  have k_divisor : PySem.W.keepIn K (.ref (He.ga K "divisor")) = true := hc.fact 49 (f := .keep "divisor") rfl
  have o_divisor := ok_divisor (P := P) (w := w) (base := base) hX hG hc
  obtain ⟨fd, F⟩ := hc.def_ 10 (d := d_reduced) rfl
  refine fn_p F sc_reduced rfl (fun _ _ _ _ _ _ us hl => match us, hl with | [_, _], _ => rfl) (fun cdv A outer s H Ee E hr hg tk => ?_)
  have hN := sc_reduced.nd
  have hu := hu_of hr
  have hq := hq_of hr
  have hi := hi_of hr
  exact ss_cons (ss_set 2 hN (sr_call o_divisor (hr.mono (by decide)) hg tk (by rfl) q_divisor k_divisor (sa_cons (sr_v 0) (sa_cons (sr_v 1) (sa_nil)))))
          (ss_cons (ss_if (st_cmp ob_lt (sr_v 1) (sr_int) (by rfl)) (ss_one (ss_set 2 hN (sr_un us_neg (sr_v 2)))) (ss_nil))
          (ss_one (ss_ret (sr_tup (sa_cons (sr_op os_fdv (sr_v 0) (sr_v 2)) (sa_cons (sr_op os_fdv (sr_v 1) (sr_v 2)) (sa_nil)))))))
theorem ok_plus (hX : K.In h) (hG : h.Ns mainGlobals mg) (hc : He.SaysD fa fn K) : FnC P w K mg base 3 (He.ga K "plus") 2 [] F_plus := by
  have q_reduced := He.glo_ok hX hG (hc.fact 10 (f := .glo "reduced") rfl)
  have k_reduced : PySem.W.keepIn K (.ref (He.ga K "reduced")) = true := hc.fact 50 (f := .keep "reduced") rfl
  have o_reduced := ok_reduced (P := P) (w := w) (base := base) hX hG hc
  obtain ⟨fd, F⟩ := hc.def_ 11 (d := d_plus) rfl
  refine fn_p F sc_plus rfl (fun _ _ _ _ _ _ us hl => match us, hl with | [_, _], _ => rfl) (fun cdv A outer s H Ee E hr hg tk => ?_)
  have hN := sc_plus.nd
  have hu := hu_of hr
  have hq := hq_of hr
  have hi := hi_of hr
  exact ss_one (ss_ret (sr_call o_reduced (hr.mono (by decide)) hg tk (by rfl) q_reduced k_reduced (sa_cons (sr_op os_add (sr_op os_mul (sr_ix hu (sr_v 0) (sr_int)) (sr_ix hu (sr_v 1) (sr_int))) (sr_op os_mul (sr_ix hu (sr_v 1) (sr_int)) (sr_ix hu (sr_v 0) (sr_int)))) (sa_cons (sr_op os_mul (sr_ix hu (sr_v 0) (sr_int)) (sr_ix hu (sr_v 1) (sr_int))) (sa_nil)))))
theorem ok_minus (hX : K.In h) (hG : h.Ns mainGlobals mg) (hc : He.SaysD fa fn K) : FnC P w K mg base 3 (He.ga K "minus") 2 [] F_minus := by
  have q_reduced := He.glo_ok hX hG (hc.fact 10 (f := .glo "reduced") rfl)
  have k_reduced : PySem.W.keepIn K (.ref (He.ga K "reduced")) = true := hc.fact 50 (f := .keep "reduced") rfl
  have o_reduced := ok_reduced (P := P) (w := w) (base := base) hX hG hc
  obtain ⟨fd, F⟩ := hc.def_ 12 (d := d_minus) rfl
  refine fn_p F sc_minus rfl (fun _ _ _ _ _ _ us hl => match us, hl with | [_, _], _ => rfl) (fun cdv A outer s H Ee E hr hg tk => ?_)
  have hN := sc_minus.nd
  have hu := hu_of hr
  have hq := hq_of hr
  have hi := hi_of hr
  exact ss_one (ss_ret (sr_call o_reduced (hr.mono (by decide)) hg tk (by rfl) q_reduced k_reduced (sa_cons (sr_op os_sub (sr_op os_mul (sr_ix hu (sr_v 0) (sr_int)) (sr_ix hu (sr_v 1) (sr_int))) (sr_op os_mul (sr_ix hu (sr_v 1) (sr_int)) (sr_ix hu (sr_v 0) (sr_int)))) (sa_cons (sr_op os_mul (sr_ix hu (sr_v 0) (sr_int)) (sr_ix hu (sr_v 1) (sr_int))) (sa_nil)))))
theorem ok_times (hX : K.In h) (hG : h.Ns mainGlobals mg) (hc : He.SaysD fa fn K) : FnC P w K mg base 3 (He.ga K "times") 2 [] F_times := by
  have q_reduced := He.glo_ok hX hG (hc.fact 10 (f := .glo "reduced") rfl)
  have k_reduced : PySem.W.keepIn K (.ref (He.ga K "reduced")) = true := hc.fact 50 (f := .keep "reduced") rfl
  have o_reduced := ok_reduced (P := P) (w := w) (base := base) hX hG hc
  obtain ⟨fd, F⟩ := hc.def_ 13 (d := d_times) rfl
  refine fn_p F sc_times rfl (fun _ _ _ _ _ _ us hl => match us, hl with | [_, _], _ => rfl) (fun cdv A outer s H Ee E hr hg tk => ?_)
  have hN := sc_times.nd
  have hu := hu_of hr
  have hq := hq_of hr
  have hi := hi_of hr
  exact ss_one (ss_ret (sr_call o_reduced (hr.mono (by decide)) hg tk (by rfl) q_reduced k_reduced (sa_cons (sr_op os_mul (sr_ix hu (sr_v 0) (sr_int)) (sr_ix hu (sr_v 1) (sr_int))) (sa_cons (sr_op os_mul (sr_ix hu (sr_v 0) (sr_int)) (sr_ix hu (sr_v 1) (sr_int))) (sa_nil)))))
theorem ok__law_order_right (hX : K.In h) (hG : h.Ns mainGlobals mg) (hc : He.SaysD fa fn K) : FnC P w K mg base 4 (He.ga K "_law_order_right") 3 [] F__law_order_right := by
  have q_is_less := He.glo_ok hX hG (hc.fact 6 (f := .glo "is_less") rfl)
  have k_is_less : PySem.W.keepIn K (.ref (He.ga K "is_less")) = true := hc.fact 46 (f := .keep "is_less") rfl
  have q_plus := He.glo_ok hX hG (hc.fact 11 (f := .glo "plus") rfl)
  have k_plus : PySem.W.keepIn K (.ref (He.ga K "plus")) = true := hc.fact 51 (f := .keep "plus") rfl
  have q_minus := He.glo_ok hX hG (hc.fact 12 (f := .glo "minus") rfl)
  have k_minus : PySem.W.keepIn K (.ref (He.ga K "minus")) = true := hc.fact 52 (f := .keep "minus") rfl
  have q_times := He.glo_ok hX hG (hc.fact 13 (f := .glo "times") rfl)
  have k_times : PySem.W.keepIn K (.ref (He.ga K "times")) = true := hc.fact 53 (f := .keep "times") rfl
  have q_greatest_of := He.glo_ok hX hG (hc.fact 8 (f := .glo "greatest_of") rfl)
  have k_greatest_of : PySem.W.keepIn K (.ref (He.ga K "greatest_of")) = true := hc.fact 48 (f := .keep "greatest_of") rfl
  have q_least_of := He.glo_ok hX hG (hc.fact 7 (f := .glo "least_of") rfl)
  have k_least_of : PySem.W.keepIn K (.ref (He.ga K "least_of")) = true := hc.fact 47 (f := .keep "least_of") rfl
  have o_greatest_of_3 := ok_greatest_of_3 (P := P) (w := w) (base := base) hX hG hc
  have o_is_less := ok_is_less (P := P) (w := w) (base := base) hX hG hc
  have o_least_of_3 := ok_least_of_3 (P := P) (w := w) (base := base) hX hG hc
  have o_minus := ok_minus (P := P) (w := w) (base := base) hX hG hc
  have o_plus := ok_plus (P := P) (w := w) (base := base) hX hG hc
  have o_times := ok_times (P := P) (w := w) (base := base) hX hG hc
  obtain ⟨fd, F⟩ := hc.def_ 14 (d := d__law_order_right) rfl
  refine fn_p F sc__law_order_right rfl (fun _ _ _ _ _ _ us hl => match us, hl with | [_, _, _], _ => rfl) (fun cdv A outer s H Ee E hr hg tk => ?_)
  have hN := sc__law_order_right.nd
  have hu := hu_of hr
  have hq := hq_of hr
  have hi := hi_of hr
  exact ss_cons (ss_if (PW.pt (sw_or (st_cmp (ob_ne hq) (sr_l1 (mt_cnt hi) PySem.F.slot_list_count PySem.F.type_list_count (sr_lst (sa_cons (sr_call o_is_less (hr.mono (by decide)) hg tk (by rfl) q_is_less k_is_less (sa_cons (sr_v 0) (sa_cons (sr_v 1) (sa_nil)))) (sa_cons (sr_cmp (ob_eq hq) (sr_v 0) (sr_v 1) (by rfl)) (sa_cons (sr_call o_is_less (hr.mono (by decide)) hg tk (by rfl) q_is_less k_is_less (sa_cons (sr_v 1) (sa_cons (sr_v 0) (sa_nil)))) (sa_nil))))) (sr_bl)) (sr_int) (by rfl)) (sw_or1 (st_B (sr_call o_is_less (hr.mono (by decide)) hg tk (by rfl) q_is_less k_is_less (sa_cons (sr_v 0) (sa_cons (sr_v 0) (sa_nil)))))))) (ss_one (ss_ret (sr_bl))) (ss_nil))
          (ss_cons (ss_if (st_cmp (ob_ne hq) (sr_call o_is_less (hr.mono (by decide)) hg tk (by rfl) q_is_less k_is_less (sa_cons (sr_v 0) (sa_cons (sr_v 1) (sa_nil)))) (sr_call o_is_less (hr.mono (by decide)) hg tk (by rfl) q_is_less k_is_less (sa_cons (sr_call o_plus (hr.mono (by decide)) hg tk (by rfl) q_plus k_plus (sa_cons (sr_v 0) (sa_cons (sr_v 2) (sa_nil)))) (sa_cons (sr_call o_plus (hr.mono (by decide)) hg tk (by rfl) q_plus k_plus (sa_cons (sr_v 1) (sa_cons (sr_v 2) (sa_nil)))) (sa_nil)))) (by rfl)) (ss_one (ss_ret (sr_bl))) (ss_nil))
          (ss_cons (ss_if (st_cmp (ob_ne hq) (sr_call o_is_less (hr.mono (by decide)) hg tk (by rfl) q_is_less k_is_less (sa_cons (sr_v 0) (sa_cons (sr_v 1) (sa_nil)))) (sr_call o_is_less (hr.mono (by decide)) hg tk (by rfl) q_is_less k_is_less (sa_cons (sr_tup (sa_cons (sr_int) (sa_cons (sr_int) (sa_nil)))) (sa_cons (sr_call o_minus (hr.mono (by decide)) hg tk (by rfl) q_minus k_minus (sa_cons (sr_v 1) (sa_cons (sr_v 0) (sa_nil)))) (sa_nil)))) (by rfl)) (ss_one (ss_ret (sr_bl))) (ss_nil))
          (ss_cons (ss_if (PW.pt (sw_and (st_B (sr_call o_is_less (hr.mono (by decide)) hg tk (by rfl) q_is_less k_is_less (sa_cons (sr_tup (sa_cons (sr_int) (sa_cons (sr_int) (sa_nil)))) (sa_cons (sr_v 2) (sa_nil))))) (sw_and1 (st_cmp (ob_ne hq) (sr_call o_is_less (hr.mono (by decide)) hg tk (by rfl) q_is_less k_is_less (sa_cons (sr_v 0) (sa_cons (sr_v 1) (sa_nil)))) (sr_call o_is_less (hr.mono (by decide)) hg tk (by rfl) q_is_less k_is_less (sa_cons (sr_call o_times (hr.mono (by decide)) hg tk (by rfl) q_times k_times (sa_cons (sr_v 0) (sa_cons (sr_v 2) (sa_nil)))) (sa_cons (sr_call o_times (hr.mono (by decide)) hg tk (by rfl) q_times k_times (sa_cons (sr_v 1) (sa_cons (sr_v 2) (sa_nil)))) (sa_nil)))) (by rfl))))) (ss_one (ss_ret (sr_bl))) (ss_nil))
          (ss_cons (ss_if (PW.pt (sw_and (st_B (sr_call o_is_less (hr.mono (by decide)) hg tk (by rfl) q_is_less k_is_less (sa_cons (sr_v 0) (sa_cons (sr_v 1) (sa_nil))))) (sw_and (st_B (sr_call o_is_less (hr.mono (by decide)) hg tk (by rfl) q_is_less k_is_less (sa_cons (sr_v 1) (sa_cons (sr_v 2) (sa_nil))))) (sw_and1 (st_not (st_B (sr_call o_is_less (hr.mono (by decide)) hg tk (by rfl) q_is_less k_is_less (sa_cons (sr_v 0) (sa_cons (sr_v 2) (sa_nil)))))))))) (ss_one (ss_ret (sr_bl))) (ss_nil))
          (ss_cons (ss_asg (sr_tup (sa_cons (sr_call o_least_of_3 (hr.mono (by decide)) hg tk (by rfl) q_least_of k_least_of (sa_cons (sr_v 0) (sa_cons (sr_v 1) (sa_cons (sr_v 2) (sa_nil))))) (sa_cons (sr_call o_greatest_of_3 (hr.mono (by decide)) hg tk (by rfl) q_greatest_of k_greatest_of (sa_cons (sr_v 0) (sa_cons (sr_v 1) (sa_cons (sr_v 2) (sa_nil))))) (sa_nil)))) (sg_tup rfl (sgs_cons (sg_n 3 hN) (sgs_cons (sg_n 4 hN) (sgs_nil)))))
          (ss_cons (ss_if (st_cmp (ob_ne hq) (sr_comp rfl hN (si_seq (sr_tup (sa_cons (sr_v 0) (sa_cons (sr_v 1) (sa_cons (sr_v 2) (sa_nil)))))) (own := [("_law_one", 5)]) (ts := [5]) (by refine (show BlkOk ["_law_a", "_law_b", "_law_c", "_law_low_here", "_law_high", "_law_one"] (defScope tp__law_order_right) _ _ from ?_); exact ⟨rfl, by decide +kernel, by decide +kernel, by decide +kernel, by decide +kernel⟩) (by decide) (fun _ _ _ _ _ => sg_n 5 hN) (fun _ _ _ _ _ => sts_one (PW.pt (sw_or (st_B (sr_call o_is_less (hr.mono (by decide)) hg takesF (by rfl) q_is_less k_is_less (sa_cons (sr_v 5) (sa_cons (sr_v 3) (sa_nil))))) (sw_or1 (st_B (sr_call o_is_less (hr.mono (by decide)) hg takesF (by rfl) q_is_less k_is_less (sa_cons (sr_v 4) (sa_cons (sr_v 5) (sa_nil))))))))) (fun _ _ _ _ _ => sr_v 5)) (sr_lst (sa_nil)) (by rfl)) (ss_one (ss_ret (sr_bl))) (ss_nil))
          (ss_one (ss_ret (sb_and (sr_cmp (ob_in hi) (sr_v 3) (sr_tup (sa_cons (sr_v 0) (sa_cons (sr_v 1) (sa_cons (sr_v 2) (sa_nil))))) (by rfl)) (sb_one (sr_cmp (ob_in hi) (sr_v 4) (sr_tup (sa_cons (sr_v 0) (sa_cons (sr_v 1) (sa_cons (sr_v 2) (sa_nil))))) (by rfl))))))))))))
theorem ok_over (hX : K.In h) (hG : h.Ns mainGlobals mg) (hc : He.SaysD fa fn K) : FnC P w K mg base 3 (He.ga K "over") 2 [] F_over := by
  have q_reduced := He.glo_ok hX hG (hc.fact 10 (f := .glo "reduced") rfl)
  have k_reduced : PySem.W.keepIn K (.ref (He.ga K "reduced")) = true := hc.fact 50 (f := .keep "reduced") rfl
  have o_reduced := ok_reduced (P := P) (w := w) (base := base) hX hG hc
  obtain ⟨fd, F⟩ := hc.def_ 15 (d := d_over) rfl
  refine fn_p F sc_over rfl (fun _ _ _ _ _ _ us hl => match us, hl with | [_, _], _ => rfl) (fun cdv A outer s H Ee E hr hg tk => ?_)
  have hN := sc_over.nd
  have hu := hu_of hr
  have hq := hq_of hr
  have hi := hi_of hr
  exact ss_cons (ss_if (st_cmp (ob_eq hq) (sr_ix hu (sr_v 1) (sr_int)) (sr_int) (by rfl)) (ss_one (ss_stk)) (ss_nil))
          (ss_one (ss_ret (sr_call o_reduced (hr.mono (by decide)) hg tk (by rfl) q_reduced k_reduced (sa_cons (sr_op os_mul (sr_ix hu (sr_v 0) (sr_int)) (sr_ix hu (sr_v 1) (sr_int))) (sa_cons (sr_op os_mul (sr_ix hu (sr_v 0) (sr_int)) (sr_ix hu (sr_v 1) (sr_int))) (sa_nil))))))
theorem ok__law_fields_right (hX : K.In h) (hG : h.Ns mainGlobals mg) (hc : He.SaysD fa fn K) : FnC P w K mg base 4 (He.ga K "_law_fields_right") 3 [] F__law_fields_right := by
  have q_plus := He.glo_ok hX hG (hc.fact 11 (f := .glo "plus") rfl)
  have k_plus : PySem.W.keepIn K (.ref (He.ga K "plus")) = true := hc.fact 51 (f := .keep "plus") rfl
  have q_times := He.glo_ok hX hG (hc.fact 13 (f := .glo "times") rfl)
  have k_times : PySem.W.keepIn K (.ref (He.ga K "times")) = true := hc.fact 53 (f := .keep "times") rfl
  have q_minus := He.glo_ok hX hG (hc.fact 12 (f := .glo "minus") rfl)
  have k_minus : PySem.W.keepIn K (.ref (He.ga K "minus")) = true := hc.fact 52 (f := .keep "minus") rfl
  have q_over := He.glo_ok hX hG (hc.fact 15 (f := .glo "over") rfl)
  have k_over : PySem.W.keepIn K (.ref (He.ga K "over")) = true := hc.fact 55 (f := .keep "over") rfl
  have o_minus := ok_minus (P := P) (w := w) (base := base) hX hG hc
  have o_over := ok_over (P := P) (w := w) (base := base) hX hG hc
  have o_plus := ok_plus (P := P) (w := w) (base := base) hX hG hc
  have o_times := ok_times (P := P) (w := w) (base := base) hX hG hc
  obtain ⟨fd, F⟩ := hc.def_ 16 (d := d__law_fields_right) rfl
  refine fn_p F sc__law_fields_right rfl (fun _ _ _ _ _ _ us hl => match us, hl with | [_, _, _], _ => rfl) (fun cdv A outer s H Ee E hr hg tk => ?_)
  have hN := sc__law_fields_right.nd
  have hu := hu_of hr
  have hq := hq_of hr
  have hi := hi_of hr
  exact ss_cons (ss_if (PW.pt (sw_or (st_cmp (ob_ne hq) (sr_call o_plus (hr.mono (by decide)) hg tk (by rfl) q_plus k_plus (sa_cons (sr_v 0) (sa_cons (sr_v 1) (sa_nil)))) (sr_call o_plus (hr.mono (by decide)) hg tk (by rfl) q_plus k_plus (sa_cons (sr_v 1) (sa_cons (sr_v 0) (sa_nil)))) (by rfl)) (sw_or (st_cmp (ob_ne hq) (sr_call o_times (hr.mono (by decide)) hg tk (by rfl) q_times k_times (sa_cons (sr_v 0) (sa_cons (sr_v 1) (sa_nil)))) (sr_call o_times (hr.mono (by decide)) hg tk (by rfl) q_times k_times (sa_cons (sr_v 1) (sa_cons (sr_v 0) (sa_nil)))) (by rfl)) (sw_or1 (st_cmp (ob_ne hq) (sr_call o_minus (hr.mono (by decide)) hg tk (by rfl) q_minus k_minus (sa_cons (sr_v 0) (sa_cons (sr_v 0) (sa_nil)))) (sr_tup (sa_cons (sr_int) (sa_cons (sr_int) (sa_nil)))) (by rfl)))))) (ss_one (ss_ret (sr_bl))) (ss_nil))
          (ss_cons (ss_if (PW.pt (sw_or (st_cmp (ob_ne hq) (sr_call o_plus (hr.mono (by decide)) hg tk (by rfl) q_plus k_plus (sa_cons (sr_call o_plus (hr.mono (by decide)) hg tk (by rfl) q_plus k_plus (sa_cons (sr_v 0) (sa_cons (sr_v 1) (sa_nil)))) (sa_cons (sr_v 2) (sa_nil)))) (sr_call o_plus (hr.mono (by decide)) hg tk (by rfl) q_plus k_plus (sa_cons (sr_v 0) (sa_cons (sr_call o_plus (hr.mono (by decide)) hg tk (by rfl) q_plus k_plus (sa_cons (sr_v 1) (sa_cons (sr_v 2) (sa_nil)))) (sa_nil)))) (by rfl)) (sw_or1 (st_cmp (ob_ne hq) (sr_call o_times (hr.mono (by decide)) hg tk (by rfl) q_times k_times (sa_cons (sr_call o_times (hr.mono (by decide)) hg tk (by rfl) q_times k_times (sa_cons (sr_v 0) (sa_cons (sr_v 1) (sa_nil)))) (sa_cons (sr_v 2) (sa_nil)))) (sr_call o_times (hr.mono (by decide)) hg tk (by rfl) q_times k_times (sa_cons (sr_v 0) (sa_cons (sr_call o_times (hr.mono (by decide)) hg tk (by rfl) q_times k_times (sa_cons (sr_v 1) (sa_cons (sr_v 2) (sa_nil)))) (sa_nil)))) (by rfl))))) (ss_one (ss_ret (sr_bl))) (ss_nil))
          (ss_cons (ss_if (st_cmp (ob_ne hq) (sr_call o_times (hr.mono (by decide)) hg tk (by rfl) q_times k_times (sa_cons (sr_v 0) (sa_cons (sr_call o_plus (hr.mono (by decide)) hg tk (by rfl) q_plus k_plus (sa_cons (sr_v 1) (sa_cons (sr_v 2) (sa_nil)))) (sa_nil)))) (sr_call o_plus (hr.mono (by decide)) hg tk (by rfl) q_plus k_plus (sa_cons (sr_call o_times (hr.mono (by decide)) hg tk (by rfl) q_times k_times (sa_cons (sr_v 0) (sa_cons (sr_v 1) (sa_nil)))) (sa_cons (sr_call o_times (hr.mono (by decide)) hg tk (by rfl) q_times k_times (sa_cons (sr_v 0) (sa_cons (sr_v 2) (sa_nil)))) (sa_nil)))) (by rfl)) (ss_one (ss_ret (sr_bl))) (ss_nil))
          (ss_cons (ss_if (st_cmp (ob_ne hq) (sr_call o_times (hr.mono (by decide)) hg tk (by rfl) q_times k_times (sa_cons (sr_v 0) (sa_cons (sr_call o_minus (hr.mono (by decide)) hg tk (by rfl) q_minus k_minus (sa_cons (sr_v 1) (sa_cons (sr_v 2) (sa_nil)))) (sa_nil)))) (sr_call o_minus (hr.mono (by decide)) hg tk (by rfl) q_minus k_minus (sa_cons (sr_call o_times (hr.mono (by decide)) hg tk (by rfl) q_times k_times (sa_cons (sr_v 0) (sa_cons (sr_v 1) (sa_nil)))) (sa_cons (sr_call o_times (hr.mono (by decide)) hg tk (by rfl) q_times k_times (sa_cons (sr_v 0) (sa_cons (sr_v 2) (sa_nil)))) (sa_nil)))) (by rfl)) (ss_one (ss_ret (sr_bl))) (ss_nil))
          (ss_cons (ss_if (PW.pt (sw_or (st_cmp (ob_ne hq) (sr_call o_minus (hr.mono (by decide)) hg tk (by rfl) q_minus k_minus (sa_cons (sr_call o_plus (hr.mono (by decide)) hg tk (by rfl) q_plus k_plus (sa_cons (sr_v 0) (sa_cons (sr_v 1) (sa_nil)))) (sa_cons (sr_v 1) (sa_nil)))) (sr_v 0) (by rfl)) (sw_or (st_cmp (ob_ne hq) (sr_call o_plus (hr.mono (by decide)) hg tk (by rfl) q_plus k_plus (sa_cons (sr_call o_minus (hr.mono (by decide)) hg tk (by rfl) q_minus k_minus (sa_cons (sr_v 0) (sa_cons (sr_v 1) (sa_nil)))) (sa_cons (sr_v 1) (sa_nil)))) (sr_v 0) (by rfl)) (sw_or (st_cmp (ob_ne hq) (sr_call o_plus (hr.mono (by decide)) hg tk (by rfl) q_plus k_plus (sa_cons (sr_v 0) (sa_cons (sr_tup (sa_cons (sr_int) (sa_cons (sr_int) (sa_nil)))) (sa_nil)))) (sr_v 0) (by rfl)) (sw_or1 (st_cmp (ob_ne hq) (sr_call o_times (hr.mono (by decide)) hg tk (by rfl) q_times k_times (sa_cons (sr_v 0) (sa_cons (sr_tup (sa_cons (sr_int) (sa_cons (sr_int) (sa_nil)))) (sa_nil)))) (sr_v 0) (by rfl))))))) (ss_one (ss_ret (sr_bl))) (ss_nil))
          (ss_one (ss_ret (sb_or (sr_cmp (ob_eq hq) (sr_v 1) (sr_tup (sa_cons (sr_int) (sa_cons (sr_int) (sa_nil)))) (by rfl)) (sb_one (sb_and (sr_cmp (ob_eq hq) (sr_call o_over (hr.mono (by decide)) hg tk (by rfl) q_over k_over (sa_cons (sr_call o_times (hr.mono (by decide)) hg tk (by rfl) q_times k_times (sa_cons (sr_v 0) (sa_cons (sr_v 1) (sa_nil)))) (sa_cons (sr_v 1) (sa_nil)))) (sr_v 0) (by rfl)) (sb_one (sr_cmp (ob_eq hq) (sr_call o_times (hr.mono (by decide)) hg tk (by rfl) q_times k_times (sa_cons (sr_call o_over (hr.mono (by decide)) hg tk (by rfl) q_over k_over (sa_cons (sr_v 0) (sa_cons (sr_v 1) (sa_nil)))) (sa_cons (sr_v 1) (sa_nil)))) (sr_v 0) (by rfl))))))))))))
theorem ok_is_tuple_of (hX : K.In h) (hG : h.Ns mainGlobals mg) (hc : He.SaysD fa fn K) : FnC P w K mg base 1 (He.ga K "is_tuple_of") 2 [] F_is_tuple_of := by
  have z_tuple := He.free_ok hX hG (hc.fact 30 (f := .free "tuple") rfl)
  have z_isinstance := He.free_ok hX hG (hc.fact 31 (f := .free "isinstance") rfl)
  have z_len := He.free_ok hX hG (hc.fact 28 (f := .free "len") rfl)
  obtain ⟨fd, F⟩ := hc.def_ 17 (d := d_is_tuple_of) rfl
  refine fn_p F sc_is_tuple_of rfl (fun _ _ _ _ _ _ us hl => match us, hl with | [_, _], _ => rfl) (fun cdv A outer s H Ee E hr hg tk => ?_)
  have hN := sc_is_tuple_of.nd
  have hu := hu_of hr
  have hq := hq_of hr
  have hi := hi_of hr
  exact ss_one (ss_ret (sb_and (sb_B (sr_b2 cl_isi (by rfl) z_isinstance PyProof.Rows.boot_isinstance (sr_v 0) (sr_ty (by rfl) z_tuple PyProof.Rows.boot_tuple))) (sb_one (sr_cmp (ob_eq hq) (sr_b1 cl_len (by rfl) z_len boot_len (sr_v 0)) (sr_v 1) (by rfl)))))
theorem ok_is_integer (hX : K.In h) (hG : h.Ns mainGlobals mg) (hc : He.SaysD fa fn K) : FnC P w K mg base 1 (He.ga K "is_integer") 1 [] F_is_integer := by
  have z_int := He.free_ok hX hG (hc.fact 32 (f := .free "int") rfl)
  have z_isinstance := He.free_ok hX hG (hc.fact 31 (f := .free "isinstance") rfl)
  have z_bool := He.free_ok hX hG (hc.fact 33 (f := .free "bool") rfl)
  obtain ⟨fd, F⟩ := hc.def_ 18 (d := d_is_integer) rfl
  refine fn_p F sc_is_integer rfl (fun _ _ _ _ _ _ us hl => match us, hl with | [_], _ => rfl) (fun cdv A outer s H Ee E hr hg tk => ?_)
  have hN := sc_is_integer.nd
  have hu := hu_of hr
  have hq := hq_of hr
  have hi := hi_of hr
  exact ss_one (ss_ret (sb_and (sb_B (sr_b2 cl_isi (by rfl) z_isinstance PyProof.Rows.boot_isinstance (sr_v 0) (sr_ty (by rfl) z_int PyProof.Rows.boot_int))) (sb_one (sb_not (sb_B (sr_b2 cl_isi (by rfl) z_isinstance PyProof.Rows.boot_isinstance (sr_v 0) (sr_ty (by rfl) z_bool PyProof.Rows.boot_bool)))))))
theorem ok_is_fraction (hX : K.In h) (hG : h.Ns mainGlobals mg) (hc : He.SaysD fa fn K) : FnC P w K mg base 2 (He.ga K "is_fraction") 1 [] F_is_fraction := by
  have q_is_tuple_of := He.glo_ok hX hG (hc.fact 17 (f := .glo "is_tuple_of") rfl)
  have k_is_tuple_of : PySem.W.keepIn K (.ref (He.ga K "is_tuple_of")) = true := hc.fact 57 (f := .keep "is_tuple_of") rfl
  have q_is_integer := He.glo_ok hX hG (hc.fact 18 (f := .glo "is_integer") rfl)
  have k_is_integer : PySem.W.keepIn K (.ref (He.ga K "is_integer")) = true := hc.fact 58 (f := .keep "is_integer") rfl
  have q_divisor := He.glo_ok hX hG (hc.fact 9 (f := .glo "divisor") rfl)
  have k_divisor : PySem.W.keepIn K (.ref (He.ga K "divisor")) = true := hc.fact 49 (f := .keep "divisor") rfl
  have o_divisor := ok_divisor (P := P) (w := w) (base := base) hX hG hc
  have o_is_integer := ok_is_integer (P := P) (w := w) (base := base) hX hG hc
  have o_is_tuple_of := ok_is_tuple_of (P := P) (w := w) (base := base) hX hG hc
  obtain ⟨fd, F⟩ := hc.def_ 19 (d := d_is_fraction) rfl
  refine fn_p F sc_is_fraction rfl (fun _ _ _ _ _ _ us hl => match us, hl with | [_], _ => rfl) (fun cdv A outer s H Ee E hr hg tk => ?_)
  have hN := sc_is_fraction.nd
  have hu := hu_of hr
  have hq := hq_of hr
  have hi := hi_of hr
  exact ss_cons (ss_if (PW.pt (sw_or (st_not (st_B (sr_call o_is_tuple_of (hr.mono (by decide)) hg tk (by rfl) q_is_tuple_of k_is_tuple_of (sa_cons (sr_v 0) (sa_cons (sr_int) (sa_nil)))))) (sw_or (st_not (st_B (sr_call o_is_integer (hr.mono (by decide)) hg tk (by rfl) q_is_integer k_is_integer (sa_cons (sr_ix hu (sr_v 0) (sr_int)) (sa_nil))))) (sw_or1 (st_not (st_B (sr_call o_is_integer (hr.mono (by decide)) hg tk (by rfl) q_is_integer k_is_integer (sa_cons (sr_ix hu (sr_v 0) (sr_int)) (sa_nil))))))))) (ss_one (ss_ret (sr_bl))) (ss_nil))
          (ss_one (ss_ret (sb_and (sr_cmp ob_gt (sr_ix hu (sr_v 0) (sr_int)) (sr_int) (by rfl)) (sb_one (sr_cmp (ob_eq hq) (sr_call o_divisor (hr.mono (by decide)) hg tk (by rfl) q_divisor k_divisor (sa_cons (sr_ix hu (sr_v 0) (sr_int)) (sa_cons (sr_ix hu (sr_v 0) (sr_int)) (sa_nil)))) (sr_int) (by rfl))))))
theorem ok_number_of (hX : K.In h) (hG : h.Ns mainGlobals mg) (hc : He.SaysD fa fn K) : FnC P w K mg base 1 (He.ga K "number_of") 1 [] F_number_of := by
  have z_len := He.free_ok hX hG (hc.fact 28 (f := .free "len") rfl)
  have z_int := He.free_ok hX hG (hc.fact 32 (f := .free "int") rfl)
  have z_range := He.free_ok hX hG (hc.fact 34 (f := .free "range") rfl)
  obtain ⟨t_PIECE, z_PIECE⟩ := He.int_ok hX hG (hc.fact 37 (f := .int "PIECE" 60) rfl)
  obtain ⟨t_WEIGHT, z_WEIGHT⟩ := He.int_ok hX hG (hc.fact 38 (f := .int "WEIGHT" 1000000000000000000000000000000000000000000000000000000000000) rfl)
  obtain ⟨fd, F⟩ := hc.def_ 20 (d := d_number_of) rfl
  refine fn_p F sc_number_of rfl (fun _ _ _ _ _ _ us hl => match us, hl with | [_], _ => rfl) (fun cdv A outer s H Ee E hr hg tk => ?_)
  have hN := sc_number_of.nd
  have hu := hu_of hr
  have hq := hq_of hr
  have hi := hi_of hr
  exact ss_cons (ss_set 1 hN (sr_op os_mod (sr_b1 cl_len (by rfl) z_len boot_len (sr_v 0)) (sr_gI (by rfl) z_PIECE)))
          (ss_cons (ss_set 2 hN (sr_t1 cl_int (by rfl) z_int PyProof.Rows.boot_int (sr_op os_add (sr_str) (sr_sl (sr_v 0) (sp_no) (sp_pt (sr_v 1))))))
          (ss_cons (ss_for (passes_of rfl) rfl (si_rg3 (by rfl) z_range (sr_v 1) (sr_b1 cl_len (by rfl) z_len boot_len (sr_v 0)) (sr_gI (by rfl) z_PIECE)) (sg_n 3 hN) (ss_one (ss_set 2 hN (sr_op os_add (sr_op os_mul (sr_v 2) (sr_gI (by rfl) z_WEIGHT)) (sr_t1 cl_int (by rfl) z_int PyProof.Rows.boot_int (sr_sl (sr_v 0) (sp_pt (sr_v 3)) (sp_pt (sr_op os_add (sr_v 3) (sr_gI (by rfl) z_PIECE)))))))))
          (ss_one (ss_ret (sr_v 2)))))
theorem ok_number_in (hX : K.In h) (hG : h.Ns mainGlobals mg) (hc : He.SaysD fa fn K) : FnC P w K mg base 2 (He.ga K "number_in") 1 [] F_number_in := by
  have q_number_of := He.glo_ok hX hG (hc.fact 20 (f := .glo "number_of") rfl)
  have k_number_of : PySem.W.keepIn K (.ref (He.ga K "number_of")) = true := hc.fact 60 (f := .keep "number_of") rfl
  have z_all := He.free_ok hX hG (hc.fact 35 (f := .free "all") rfl)
  obtain ⟨t_DIGITS, z_DIGITS⟩ := He.str_ok hX hG (hc.fact 39 (f := .str "DIGITS" "0123456789") rfl)
  have o_number_of := ok_number_of (P := P) (w := w) (base := base) hX hG hc
  obtain ⟨fd, F⟩ := hc.def_ 21 (d := d_number_in) rfl
  refine fn_p F sc_number_in rfl (fun _ _ _ _ _ _ us hl => match us, hl with | [_], _ => rfl) (fun cdv A outer s H Ee E hr hg tk => ?_)
  have hN := sc_number_in.nd
  have hu := hu_of hr
  have hq := hq_of hr
  have hi := hi_of hr
  exact ss_cons (ss_set 1 hN (sr_if (st_cmp (ob_eq hq) (sr_sl (sr_v 0) (sp_no) (sp_pt (sr_int))) (sr_str) (by rfl)) (sr_sl (sr_v 0) (sp_pt (sr_int)) (sp_no)) (sr_v 0)))
          (ss_cons (ss_if (PW.pt (sw_or (st_cmp (ob_eq hq) (sr_v 1) (sr_str) (by rfl)) (sw_or1 (st_not (st_B (sr_b1 (cl_all rfl) (by rfl) z_all PyProof.Rows.boot_all (sr_comp rfl hN (si_str (sr_v 1)) (own := [("sign", 2)]) (ts := [2]) (by refine (show BlkOk ["word", "digits", "sign"] (defScope tp_number_in) _ _ from ?_); exact ⟨rfl, by decide +kernel, by decide +kernel, by decide +kernel, by decide +kernel⟩) (by decide) (fun _ _ _ _ _ => sg_n 2 hN) (fun _ _ _ _ _ => sts_nil) (fun _ _ _ _ _ => sr_cmp (ob_in hi) (sr_v 2) (sr_gS (by rfl) z_DIGITS) (by rfl))))))))) (ss_one (ss_ret (sr_non))) (ss_nil))
          (ss_cons (ss_if (PW.pt (sw_and (st_cmp (ob_eq hq) (sr_ix hu (sr_v 1) (sr_int)) (sr_str) (by rfl)) (sw_and1 (st_cmp (ob_ne hq) (sr_v 0) (sr_str) (by rfl))))) (ss_one (ss_ret (sr_non))) (ss_nil))
          (ss_one (ss_ret (sr_if (st_cmp (ob_eq hq) (sr_v 0) (sr_v 1) (by rfl)) (sr_call o_number_of (hr.mono (by decide)) hg tk (by rfl) q_number_of k_number_of (sa_cons (sr_v 1) (sa_nil))) (sr_un us_neg (sr_call o_number_of (hr.mono (by decide)) hg tk (by rfl) q_number_of k_number_of (sa_cons (sr_v 1) (sa_nil)))))))))
theorem ok_fraction_in (hX : K.In h) (hG : h.Ns mainGlobals mg) (hc : He.SaysD fa fn K) : FnC P w K mg base 3 (He.ga K "fraction_in") 1 [] F_fraction_in := by
  have q_number_in := He.glo_ok hX hG (hc.fact 21 (f := .glo "number_in") rfl)
  have k_number_in : PySem.W.keepIn K (.ref (He.ga K "number_in")) = true := hc.fact 61 (f := .keep "number_in") rfl
  have q_is_fraction := He.glo_ok hX hG (hc.fact 19 (f := .glo "is_fraction") rfl)
  have k_is_fraction : PySem.W.keepIn K (.ref (He.ga K "is_fraction")) = true := hc.fact 59 (f := .keep "is_fraction") rfl
  have o_is_fraction := ok_is_fraction (P := P) (w := w) (base := base) hX hG hc
  have o_number_in := ok_number_in (P := P) (w := w) (base := base) hX hG hc
  obtain ⟨fd, F⟩ := hc.def_ 22 (d := d_fraction_in) rfl
  refine fn_p F sc_fraction_in rfl (fun _ _ _ _ _ _ us hl => match us, hl with | [_], _ => rfl) (fun cdv A outer s H Ee E hr hg tk => ?_)
  have hN := sc_fraction_in.nd
  have hu := hu_of hr
  have hq := hq_of hr
  have hi := hi_of hr
  exact ss_cons (ss_asg (sr_s1 mt_part PySem.F.slot_str_partition PySem.F.type_str_partition (sr_v 0) (sr_str)) (sg_tup rfl (sgs_cons (sg_n 1 hN) (sgs_cons (sg_n 2 hN) (sgs_cons (sg_n 3 hN) (sgs_nil))))))
          (ss_cons (ss_par 4 5 rfl hN (sr_call o_number_in (hr.mono (by decide)) hg tk (by rfl) q_number_in k_number_in (sa_cons (sr_v 1) (sa_nil))) (sr_if (st_cmp (ob_eq hq) (sr_v 2) (sr_str) (by rfl)) (sr_int) (sr_call o_number_in (hr.mono (by decide)) hg tk (by rfl) q_number_in k_number_in (sa_cons (sr_v 3) (sa_nil)))))
          (ss_cons (ss_if (PW.pt (sw_or (st_cmp ob_is2 (sr_v 4) (sr_non) (by rfl)) (sw_or (st_cmp ob_is2 (sr_v 5) (sr_non) (by rfl)) (sw_or (PW.pt (sw_and (st_cmp (ob_eq hq) (sr_v 2) (sr_str) (by rfl)) (sw_and1 (st_cmp ob_lt (sr_v 5) (sr_int) (by rfl))))) (sw_or1 (st_not (st_B (sr_call o_is_fraction (hr.mono (by decide)) hg tk (by rfl) q_is_fraction k_is_fraction (sa_cons (sr_tup (sa_cons (sr_v 4) (sa_cons (sr_v 5) (sa_nil)))) (sa_nil)))))))))) (ss_one (ss_ret (sr_non))) (ss_nil))
          (ss_one (ss_ret (sr_tup (sa_cons (sr_v 4) (sa_cons (sr_v 5) (sa_nil))))))))
theorem ok_read_fraction (hX : K.In h) (hG : h.Ns mainGlobals mg) (hc : He.SaysD fa fn K) : FnC P w K mg base 4 (He.ga K "read_fraction") 1 [] F_read_fraction := by
  have q_fraction_in := He.glo_ok hX hG (hc.fact 22 (f := .glo "fraction_in") rfl)
  have k_fraction_in : PySem.W.keepIn K (.ref (He.ga K "fraction_in")) = true := hc.fact 62 (f := .keep "fraction_in") rfl
  have z_str := He.free_ok hX hG (hc.fact 36 (f := .free "str") rfl)
  have z_isinstance := He.free_ok hX hG (hc.fact 31 (f := .free "isinstance") rfl)
  have o_fraction_in := ok_fraction_in (P := P) (w := w) (base := base) hX hG hc
  obtain ⟨fd, F⟩ := hc.def_ 23 (d := d_read_fraction) rfl
  refine fn_p F sc_read_fraction rfl (fun _ _ _ _ _ _ us hl => match us, hl with | [_], _ => rfl) (fun cdv A outer s H Ee E hr hg tk => ?_)
  have hN := sc_read_fraction.nd
  have hu := hu_of hr
  have hq := hq_of hr
  have hi := hi_of hr
  exact ss_cons (ss_set 1 hN (sr_if (st_B (sr_b2 cl_isi (by rfl) z_isinstance PyProof.Rows.boot_isinstance (sr_v 0) (sr_ty (by rfl) z_str PyProof.Rows.boot_str))) (sr_call o_fraction_in (hr.mono (by decide)) hg tk (by rfl) q_fraction_in k_fraction_in (sa_cons (sr_v 0) (sa_nil))) (sr_non)))
          (ss_cons (ss_if (st_cmp ob_is2 (sr_v 1) (sr_non) (by rfl)) (ss_one (ss_stk)) (ss_nil))
          (ss_one (ss_ret (sr_v 1))))
theorem ok_digits_of (hX : K.In h) (hG : h.Ns mainGlobals mg) (hc : He.SaysD fa fn K) : FnC P w K mg base 1 (He.ga K "digits_of") 1 [] F_digits_of := by
  have z_abs := He.free_ok hX hG (hc.fact 29 (f := .free "abs") rfl)
  have z_str := He.free_ok hX hG (hc.fact 36 (f := .free "str") rfl)
  obtain ⟨t_WEIGHT, z_WEIGHT⟩ := He.int_ok hX hG (hc.fact 38 (f := .int "WEIGHT" 1000000000000000000000000000000000000000000000000000000000000) rfl)
  obtain ⟨t_PIECE, z_PIECE⟩ := He.int_ok hX hG (hc.fact 37 (f := .int "PIECE" 60) rfl)
  obtain ⟨fd, F⟩ := hc.def_ 24 (d := d_digits_of) rfl
  refine fn_p F sc_digits_of rfl (fun _ _ _ _ _ _ us hl => match us, hl with | [_], _ => rfl) (fun cdv A outer s H Ee E hr hg tk => ?_)
  have hN := sc_digits_of.nd
  have hu := hu_of hr
  have hq := hq_of hr
  have hi := hi_of hr
  exact ss_cons (ss_par 1 2 rfl hN (sr_b1 cl_abs (by rfl) z_abs PyProof.Rows.boot_abs (sr_v 0)) (sr_str))
          (ss_cons (ss_while (fun st => natAt st 1 + 1) (passes_of rfl) (st_cmp ob_ge (sr_v 1) (sr_gI (by rfl) z_WEIGHT) (by rfl)) (ss_cons (ss_set 2 hN (sr_op os_add (sr_s1 mt_zf PySem.F.slot_str_zfill PySem.F.type_str_zfill (sr_t1 cl_str (by rfl) z_str PyProof.Rows.boot_str (sr_op os_mod (sr_v 1) (sr_gI (by rfl) z_WEIGHT))) (sr_gI (by rfl) z_PIECE)) (sr_v 2)))
          (ss_one (ss_set 1 hN (sr_op os_fdv (sr_v 1) (sr_gI (by rfl) z_WEIGHT))))))
          (ss_one (ss_ret (sr_op os_add (sr_op os_add (sr_if (st_cmp ob_lt (sr_v 0) (sr_int) (by rfl)) (sr_str) (sr_str)) (sr_t1 cl_str (by rfl) z_str PyProof.Rows.boot_str (sr_v 1))) (sr_v 2)))))
theorem ok_text_of (hX : K.In h) (hG : h.Ns mainGlobals mg) (hc : He.SaysD fa fn K) : FnC P w K mg base 2 (He.ga K "text_of") 1 [] F_text_of := by
  have q_digits_of := He.glo_ok hX hG (hc.fact 24 (f := .glo "digits_of") rfl)
  have k_digits_of : PySem.W.keepIn K (.ref (He.ga K "digits_of")) = true := hc.fact 64 (f := .keep "digits_of") rfl
  have o_digits_of := ok_digits_of (P := P) (w := w) (base := base) hX hG hc
  obtain ⟨fd, F⟩ := hc.def_ 25 (d := d_text_of) rfl
  refine fn_p F sc_text_of rfl (fun _ _ _ _ _ _ us hl => match us, hl with | [_], _ => rfl) (fun cdv A outer s H Ee E hr hg tk => ?_)
  have hN := sc_text_of.nd
  have hu := hu_of hr
  have hq := hq_of hr
  have hi := hi_of hr
  exact ss_one (ss_ret (sr_if (st_cmp (ob_eq hq) (sr_ix hu (sr_v 0) (sr_int)) (sr_int) (by rfl)) (sr_call o_digits_of (hr.mono (by decide)) hg tk (by rfl) q_digits_of k_digits_of (sa_cons (sr_ix hu (sr_v 0) (sr_int)) (sa_nil))) (sr_join (.cons (sr_fm (sr_call o_digits_of (hr.mono (by decide)) hg tk (by rfl) q_digits_of k_digits_of (sa_cons (sr_ix hu (sr_v 0) (sr_int)) (sa_nil)))) (.cons (sr_str) (.cons (sr_fm (sr_call o_digits_of (hr.mono (by decide)) hg tk (by rfl) q_digits_of k_digits_of (sa_cons (sr_ix hu (sr_v 0) (sr_int)) (sa_nil)))) (.nil)))))))
theorem ok_law (hX : K.In h) (hG : h.Ns mainGlobals mg) (hc : He.SaysD fa fn K) : FnC P w K mg base 12 (He.ga K "law") 1 [] F_law := by
  have q__law_pen := He.glo_ok hX hG (hc.fact 0 (f := .glo "_law_pen") rfl)
  have k__law_pen : PySem.W.keepIn K (.ref (He.ga K "_law_pen")) = true := hc.fact 40 (f := .keep "_law_pen") rfl
  have q__law_fraction := He.glo_ok hX hG (hc.fact 5 (f := .glo "_law_fraction") rfl)
  have k__law_fraction : PySem.W.keepIn K (.ref (He.ga K "_law_fraction")) = true := hc.fact 45 (f := .keep "_law_fraction") rfl
  have q__law_pick := He.glo_ok hX hG (hc.fact 2 (f := .glo "_law_pick") rfl)
  have k__law_pick : PySem.W.keepIn K (.ref (He.ga K "_law_pick")) = true := hc.fact 42 (f := .keep "_law_pick") rfl
  have q__law_fields_right := He.glo_ok hX hG (hc.fact 16 (f := .glo "_law_fields_right") rfl)
  have k__law_fields_right : PySem.W.keepIn K (.ref (He.ga K "_law_fields_right")) = true := hc.fact 56 (f := .keep "_law_fields_right") rfl
  have q__law_order_right := He.glo_ok hX hG (hc.fact 14 (f := .glo "_law_order_right") rfl)
  have k__law_order_right : PySem.W.keepIn K (.ref (He.ga K "_law_order_right")) = true := hc.fact 54 (f := .keep "_law_order_right") rfl
  have q_times := He.glo_ok hX hG (hc.fact 13 (f := .glo "times") rfl)
  have k_times : PySem.W.keepIn K (.ref (He.ga K "times")) = true := hc.fact 53 (f := .keep "times") rfl
  have q_minus := He.glo_ok hX hG (hc.fact 12 (f := .glo "minus") rfl)
  have k_minus : PySem.W.keepIn K (.ref (He.ga K "minus")) = true := hc.fact 52 (f := .keep "minus") rfl
  have q_plus := He.glo_ok hX hG (hc.fact 11 (f := .glo "plus") rfl)
  have k_plus : PySem.W.keepIn K (.ref (He.ga K "plus")) = true := hc.fact 51 (f := .keep "plus") rfl
  have q_least_of := He.glo_ok hX hG (hc.fact 7 (f := .glo "least_of") rfl)
  have k_least_of : PySem.W.keepIn K (.ref (He.ga K "least_of")) = true := hc.fact 47 (f := .keep "least_of") rfl
  have q_is_fraction := He.glo_ok hX hG (hc.fact 19 (f := .glo "is_fraction") rfl)
  have k_is_fraction : PySem.W.keepIn K (.ref (He.ga K "is_fraction")) = true := hc.fact 59 (f := .keep "is_fraction") rfl
  have q_read_fraction := He.glo_ok hX hG (hc.fact 23 (f := .glo "read_fraction") rfl)
  have k_read_fraction : PySem.W.keepIn K (.ref (He.ga K "read_fraction")) = true := hc.fact 63 (f := .keep "read_fraction") rfl
  have q_text_of := He.glo_ok hX hG (hc.fact 25 (f := .glo "text_of") rfl)
  have k_text_of : PySem.W.keepIn K (.ref (He.ga K "text_of")) = true := hc.fact 65 (f := .keep "text_of") rfl
  have z_range := He.free_ok hX hG (hc.fact 34 (f := .free "range") rfl)
  have o__law_fields_right := ok__law_fields_right (P := P) (w := w) (base := base) hX hG hc
  have o__law_fraction := ok__law_fraction (P := P) (w := w) (base := base) hX hG hc
  have o__law_order_right := ok__law_order_right (P := P) (w := w) (base := base) hX hG hc
  have o__law_pen := ok__law_pen (P := P) (w := w) (base := base) hX hG hc
  have o__law_pick := ok__law_pick (P := P) (w := w) (base := base) hX hG hc
  have o_is_fraction := ok_is_fraction (P := P) (w := w) (base := base) hX hG hc
  have o_least_of_2 := ok_least_of_2 (P := P) (w := w) (base := base) hX hG hc
  have o_minus := ok_minus (P := P) (w := w) (base := base) hX hG hc
  have o_plus := ok_plus (P := P) (w := w) (base := base) hX hG hc
  have o_read_fraction := ok_read_fraction (P := P) (w := w) (base := base) hX hG hc
  have o_text_of := ok_text_of (P := P) (w := w) (base := base) hX hG hc
  have o_times := ok_times (P := P) (w := w) (base := base) hX hG hc
  obtain ⟨fd, F⟩ := hc.def_ 26 (d := d_law) rfl
  refine fn_p F sc_law rfl (fun _ _ _ _ _ _ us hl => match us, hl with | [_], _ => rfl) (fun cdv A outer s H Ee E hr hg tk => ?_)
  have hN := sc_law.nd
  have hu := hu_of hr
  have hq := hq_of hr
  have hi := hi_of hr
  exact ss_cons (ss_set 1 hN (sr_call o__law_pen (hr.mono (by decide)) hg tk (by rfl) q__law_pen k__law_pen (sa_cons (sr_v 0) (sa_nil))))
          (ss_cons (ss_for (passes_of rfl) rfl (si_rg1 (by rfl) z_range (sr_int)) (sg_n 2 hN) (ss_cons (ss_par 3 4 rfl hN (sr_call o__law_fraction (hr.mono (by decide)) hg tk (by rfl) q__law_fraction k__law_fraction (sa_cons (sr_v 1) (sa_nil))) (sr_call o__law_fraction (hr.mono (by decide)) hg tk (by rfl) q__law_fraction k__law_fraction (sa_cons (sr_v 1) (sa_nil))))
          (ss_cons (ss_set 5 hN (sr_call o__law_fraction (hr.mono (by decide)) hg tk (by rfl) q__law_fraction k__law_fraction (sa_cons (sr_v 1) (sa_nil))))
          (ss_cons (ss_set 4 hN (sr_call o__law_pick (hr.mono (by decide)) hg tk (by rfl) q__law_pick k__law_pick (sa_cons (sr_v 1) (sa_cons (sr_lst (sa_cons (sr_v 4) (sa_cons (sr_v 4) (sa_cons (sr_v 3) (sa_cons (sr_tup (sa_cons (sr_int) (sa_cons (sr_int) (sa_nil)))) (sa_nil)))))) (sa_nil)))))
          (ss_cons (ss_if (PW.pt (sw_or (st_not (st_B (sr_call o__law_fields_right (hr.mono (by decide)) hg tk (by rfl) q__law_fields_right k__law_fields_right (sa_cons (sr_v 3) (sa_cons (sr_v 4) (sa_cons (sr_v 5) (sa_nil))))))) (sw_or1 (st_not (st_B (sr_call o__law_order_right (hr.mono (by decide)) hg tk (by rfl) q__law_order_right k__law_order_right (sa_cons (sr_v 3) (sa_cons (sr_v 4) (sa_cons (sr_v 5) (sa_nil)))))))))) (ss_one (ss_ret (sr_bl))) (ss_nil))
          (ss_cons (ss_if (st_not (st_B (sr_call o__law_order_right (hr.mono (by decide)) hg tk (by rfl) q__law_order_right k__law_order_right (sa_cons (sr_v 5) (sa_cons (sr_v 3) (sa_cons (sr_v 4) (sa_nil))))))) (ss_one (ss_ret (sr_bl))) (ss_nil))
          (ss_cons (ss_set 6 hN (sr_lst (sa_cons (sr_call o_plus (hr.mono (by decide)) hg tk (by rfl) q_plus k_plus (sa_cons (sr_v 3) (sa_cons (sr_v 4) (sa_nil)))) (sa_cons (sr_call o_minus (hr.mono (by decide)) hg tk (by rfl) q_minus k_minus (sa_cons (sr_v 3) (sa_cons (sr_v 5) (sa_nil)))) (sa_cons (sr_call o_times (hr.mono (by decide)) hg tk (by rfl) q_times k_times (sa_cons (sr_v 4) (sa_cons (sr_v 5) (sa_nil)))) (sa_nil))))))
          (ss_cons (ss_set 6 hN (sr_op os_add (sr_v 6) (sr_lst (sa_cons (sr_call o_times (hr.mono (by decide)) hg tk (by rfl) q_times k_times (sa_cons (sr_v 3) (sa_cons (sr_v 3) (sa_nil)))) (sa_cons (sr_call o_least_of_2 (hr.mono (by decide)) hg tk (by rfl) q_least_of k_least_of (sa_cons (sr_v 3) (sa_cons (sr_v 5) (sa_nil)))) (sa_nil))))))
          (ss_cons (ss_if (st_cmp (ob_ne hq) (sr_comp rfl hN (si_seq (sr_v 6)) (own := [("_law_one", 7)]) (ts := [7]) (by refine (show BlkOk ["_law_script", "_law_pen_here", "_law_turn", "_law_a", "_law_b", "_law_c", "_law_some", "_law_one"] (defScope tp_law) _ _ from ?_); exact ⟨rfl, by decide +kernel, by decide +kernel, by decide +kernel, by decide +kernel⟩) (by decide) (fun _ _ _ _ _ => sg_n 7 hN) (fun _ _ _ _ _ => sts_one (st_cmp ob_isnot2 (sr_call o_is_fraction (hr.mono (by decide)) hg takesF (by rfl) q_is_fraction k_is_fraction (sa_cons (sr_v 7) (sa_nil))) (sr_bl) (by rfl))) (fun _ _ _ _ _ => sr_v 7)) (sr_lst (sa_nil)) (by rfl)) (ss_one (ss_ret (sr_bl))) (ss_nil))
          (ss_one (ss_if (st_cmp (ob_ne hq) (sr_comp rfl hN (si_seq (sr_v 6)) (own := [("_law_one", 7)]) (ts := [7]) (by refine (show BlkOk ["_law_script", "_law_pen_here", "_law_turn", "_law_a", "_law_b", "_law_c", "_law_some", "_law_one"] (defScope tp_law) _ _ from ?_); exact ⟨rfl, by decide +kernel, by decide +kernel, by decide +kernel, by decide +kernel⟩) (by decide) (fun _ _ _ _ _ => sg_n 7 hN) (fun _ _ _ _ _ => sts_one (st_cmp (ob_ne hq) (sr_call o_read_fraction (hr.mono (by decide)) hg takesF (by rfl) q_read_fraction k_read_fraction (sa_cons (sr_call o_text_of (hr.mono (by decide)) hg takesF (by rfl) q_text_of k_text_of (sa_cons (sr_v 7) (sa_nil))) (sa_nil))) (sr_v 7) (by rfl))) (fun _ _ _ _ _ => sr_v 7)) (sr_lst (sa_nil)) (by rfl)) (ss_one (ss_ret (sr_bl))) (ss_nil))))))))))))
          (ss_one (ss_ret (sr_bl))))
end
end A04

set_option Elab.async false
set_option linter.all false
set_option maxRecDepth 100000
set_option maxHeartbeats 0
namespace A04
open PySem PySem.Spec L2 PM
abbrev R : PySem.W.OpenRow := PySem.W.OpenLaw.row PySem.Challenge.rw_pactroads_k04_whole_rules_of_fractions
abbrev hk : PySem.W.Hook := He.hookD 4 fa fn
def ob (s : PySem.W.SharedT) : He.AlD := He.obsDG 4 fa fn (HandSHeadRun.getT s)
theorem ob_eq (s : PySem.W.SharedT) : ob s = hk.obs s.abs := He.obsDG_eq (HandSHeadRun.getT_eq s)
def loose : List Str := (["DIGITS", "DivisionByZero", "InvalidText", "PIECE", "WEIGHT", "_law_draw", "_law_fields_right", "_law_fraction", "_law_integer", "_law_low", "_law_order_right", "_law_pen", "_law_pick", "digits_of", "divisor", "fraction_in", "greatest_of", "is_fraction", "is_integer", "is_less", "is_tuple_of", "least_of", "minus", "number_in", "number_of", "over", "plus", "read_fraction", "reduced", "text_of"] : List Str) ++ (["times"] : List Str)
theorem run (w : World) : HandSHeadRun.RunEq R (PySem.W.view R.prog [35]) hk ob 3000 loose w := by
  intro os
  kernel_rfl
end A04

set_option Elab.async false
set_option linter.all false
set_option maxRecDepth 100000
set_option maxHeartbeats 0
open PySem PySem.W PySem.Calls PyProof.Rows
theorem PySem.Challenge.cw_pactroads_k04_whole_rules_of_fractions_holds : PySem.Challenge.rw_pactroads_k04_whole_rules_of_fractions.Holds := by
  w_on; o_law
  refine HandSHeadRun.head_any (r := OpenLaw.row PySem.Challenge.rw_pactroads_k04_whole_rules_of_fractions) (q := view (OpenLaw.row PySem.Challenge.rw_pactroads_k04_whole_rules_of_fractions).prog [35]) (H := A04.hk) (ob := A04.ob) (M := 3000) (loose := A04.loose) (d := HandSHeadRun.topDef (OpenLaw.row PySem.Challenge.rw_pactroads_k04_whole_rules_of_fractions).prog 35) (kwd := []) A04.ob_eq
    (by kernel_rfl) (fun s => by kernel_rfl) A04.run (by kernel_rfl) (by kernel_rfl) (by kernel_rfl) (by rfl) (by first | assumption | decide +kernel) (by decide +kernel) ⟨rfl, rfl, rfl, rfl, rfl, by decide +kernel⟩ ?hw ?hc
  case hw => w_witness2
  case hc =>
    refine PM.law_endC (l := PySem.Challenge.rw_pactroads_k04_whole_rules_of_fractions) (k := 12) rfl (by kernel_rfl) ⟨rfl, by decide, by decide⟩ ?F
    intro w mg fa h Y G hmg0
    obtain ⟨K, KX, c⟩ := Y
    have hmg : mg ("law" : PySem.Str) = some (.ref fa) := by
      have e : (HandSHeadRun.topDef (OpenLaw.row PySem.Challenge.rw_pactroads_k04_whole_rules_of_fractions).prog 35).name = ("law" : PySem.Str) := by kernel_rfl
      rw [← e]
      exact hmg0
    have e := hmg.symm.trans (He.glo_ok KX G (c.fact 26 (f := .glo "law") rfl))
    cases e
    exact ⟨K, A04.F_law, KX, fun base _ _ => A04.ok_law KX G c, A04.law_true⟩
