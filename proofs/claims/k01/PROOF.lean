import PyProof.Rows.All
import Wide.All
import OpenK.AllK
import Wide.FinOn
import HandS.ForMost
import HandS.Exc
import HandS.CallSlots
import HandS.HeadHook1
import HandS.Lambda
import HandS.Iter
import HandS.Wide
import HandS.Star
import HandS.IsInst
import HandS.StrMore
import HandS.TupAny
import HandS.FStr
import HandS.Deep
import HandS.SetFor
import HandS.TupLe
import HandS.Ends
import HandS.EndBits
import HandS.Defaults
import HandS.Head0
import HandS.Head1
import HandS.Head2
import HandS.HeadEnd
import HandS.HeadHook2
import OpenK.KOps
import OpenK.KMeth
import HandS.SlotsOwn
import HandS.Property
import HandS.ClsMeth
import HandS.CallLocal
import HandS.Zip
import HandS.NoneIn
import HandS.TryOnly
import KE.KExcInit
import HandS.ExcInit
import HandS.TryMany
import HandS.ExcValue
import PyProof.ReprReads
import PyProof.ReprRoads
import PyProof.CallFns
import HandS.ExcField
import HandS.ExcIs
import HandS.EndTab
import PySem.Challenge.RW_pactroads_k01_fractions
import HandS.Style
import PyProof.StrLawsRepr
import PyProof.Rows.RegStrFacts
import KE.KRevSl
import HandS.DictComp
import HandS.Text
import KE.KIntText
import KE.IntTextText
import HandS.TupMul
import PyProof.DictUpdate
import PyProof.DictDisplay
import HandS.SetKeys
import HandS.SetBool
import HandS.SortRule
import KE.KSortTupAny
import PyProof.Rows.SetFrom
import PyProof.WalksMore
import KE.KEqDict
import HandS.Set
set_option Elab.async false
set_option linter.all false
set_option maxRecDepth 100000
set_option maxHeartbeats 1200000
/-! Values as trees, a monad of runs, and what it means that a run tells of a piece of the program. -/
namespace PM
open PySem PySem.Spec L2
inductive D where
  | non | bl (b : Bool) | int (i : Int) | str (s : Str)
  | tup (ds : List D) | lst (ds : List D) | lsF (ds : List D) | tpF (ds : List D)
  | dct (kvs : List (Key × D)) | dcT (kvs : List (List Key × D))
  | obj (n : Nat) | rcd (C : Str) (fs : List (Str × D)) | exn0 (C : Str) | exn (C : Str) (fs : List (Str × D)) | cls (C : Str) | val (v : V)
/-- a thing that may change -/
inductive Cell where
  | dead | ls (ds : List D) | dc (kvs : List (Key × D)) | dt (kvs : List (List Key × D)) | ins (C : Str) (fs : List (Str × D)) | tab (P : Addr) (q : Str)
def Cell.frz : Cell → D
  | .dead => .non
  | .ls ds => .lst ds
  | .dc kvs => .dct kvs
  | .dt kvs => .dcT kvs
  | .ins C fs => .rcd C fs
  | .tab P _ => .val (.ref P)
/-- a value that is shared, a new thing that nobody else holds, or the frame's own thing at a slot -/
inductive RV where
  | sh (d : D) | ow (c : Cell) | lo (i : Nat)
inductive Slot where
  | un | sh (d : D) | ow (c : Cell)
def Slot.own : Slot → Bool
  | .ow _ => true
  | _ => false
structure State where
  env : List Slot
  store : List Cell
/-- an exception's class: one of the text, or a built-in one -/
inductive ECls where
  | own (C : Str) | blt (n : String)
def ECls.val (K : PySem.W.Frag) : ECls → Value
  | .own C => .ref (He.ga K C)
  | .blt n => .type n
structure Exc where
  cls : ECls
  fs : Option (List (Str × D))
inductive Out (α : Type) where
  | ok (a : α) (st : State) | exc (c : Exc) (st : State) | stuck
def M (α : Type) := State → Out α
def M.pure {α : Type} (a : α) : M α := fun st => .ok a st
def M.bind {α β : Type} (m : M α) (f : α → M β) : M β := fun st => match m st with
  | .ok a st' => f a st'
  | .exc c st' => .exc c st'
  | .stuck => .stuck
instance : Monad M where
  pure := M.pure
  bind := M.bind
def M.stuck {α : Type} : M α := fun _ => .stuck
def M.ofO {α : Type} : Option α → M α
  | some a => M.pure a
  | none => M.stuck
/-- a slot's value, from now on shared -/
def mVar (i : Nat) : M D := fun st => match st.env[i]? with
  | some (.sh d) => .ok d st
  | some (.ow c) => .ok c.frz { st with env := st.env.set i (.sh c.frz) }
  | _ => .stuck
def RV.frz : RV → M D
  | .sh d => M.pure d
  | .ow c => M.pure c.frz
  | .lo i => mVar i
def M.frz (m : M RV) : M D := m.bind RV.frz
/-- what is new is shared, the frame's own is left as it is -/
def RV.bor : RV → RV
  | .ow c => .sh c.frz
  | r => r
def M.bor (m : M RV) : M RV := m.bind fun r => M.pure r.bor
/-- what a value looks like now -/
def view (st : State) : RV → Option D
  | .sh (.obj n) => match st.store[n]? with
    | some (.ls ds) => some (.lst ds)
    | some (.dc kvs) => some (.dct kvs)
    | some (.dt kvs) => some (.dcT kvs)
    | some (.ins _ _) => some (.obj n)
    | _ => none
  | .sh d => some d
  | .lo i => match st.env[i]? with
    | some (.sh d) => some d
    | some (.ow c) => some c.frz
    | _ => none
  | .ow _ => none
def M.sh (m : M D) : M RV := m.bind fun d => M.pure (.sh d)
/-- an exception that was caught stands at a -/
def exh (a : Addr) (cls : Value) (d : Option Addr) : HO := .ext fun h => ∃ (oe : Obj) (vs : Array Value), h.get? a = some oe ∧ Zc cls d oe ∧ oe.data = .fields vs
section
variable (K : PySem.W.Frag)
/-! ### what a value is the tree of -/
mutual
inductive Rv (φ : List Addr) (I : Hp) : D → V → Prop
  | non : Rv φ I .non .non
  | bl (b : Bool) : Rv φ I (.bl b) (.bl b)
  | int (i : Int) : Rv φ I (.int i) (.int i)
  | str (s : Str) : Rv φ I (.str s) (.str s)
  | tup {a : Addr} {vs : List V} {ds : List D} : I a = some (.tup vs) → Rvs φ I ds vs → Rv φ I (.tup ds) (.ref a)
  | tpF {a : Addr} {vs : List V} {ds : List D} : SqT K I a vs → Rvs φ I ds vs → Rv φ I (.tpF ds) (.ref a)
  | lst {a : Addr} {vs : List V} {ds : List D} : I a = some (.lst vs) → Rvs φ I ds vs → Rv φ I (.lst ds) (.ref a)
  | lsF {a : Addr} {vs : List V} {ds : List D} : SqL K I a vs → Rvs φ I ds vs → Rv φ I (.lsF ds) (.ref a)
  | dct {a : Addr} {us : List (Key × V)} {kvs : List (Key × D)} {od : Obj} : I a = some (.frz od (.dK us)) → us.map (·.1) = kvs.map (·.1) → Rvs φ I (kvs.map (·.2)) (us.map (·.2)) → Rv φ I (.dct kvs) (.ref a)
  | dcT {a : Addr} {us : List (List Key × V)} {kvs : List (List Key × D)} {od : Obj} : I a = some (.frz od (.dT us)) → us.map (·.1) = kvs.map (·.1) → Rvs φ I (kvs.map (·.2)) (us.map (·.2)) → Rv φ I (.dcT kvs) (.ref a)
  | obj {n : Nat} {a : Addr} : φ[n]? = some a → Rv φ I (.obj n) (.ref a)
  | rcd {C : Str} {a dx : Addr} {us : List (Str × V)} {fs : List (Str × D)} : I a = some (.ins (He.ga K C) dx us) → us.map (·.1) = fs.map (·.1) → Rvs φ I (fs.map (·.2)) (us.map (·.2)) → Rv φ I (.rcd C fs) (.ref a)
  | exn0 {C : Str} {a : Addr} : I a = some (exh a (.ref (He.ga K C)) none) → Rv φ I (.exn0 C) (.ref a)
  | exn {C : Str} {a dx : Addr} {us : List (Str × V)} {fs : List (Str × D)} : I a = some (exh a (.ref (He.ga K C)) (some dx)) → I dx = some (.xd us) → us.map (·.1) = fs.map (·.1) → Rvs φ I (fs.map (·.2)) (us.map (·.2)) → Rv φ I (.exn C fs) (.ref a)
  | cls (C : Str) : Rv φ I (.cls C) (.ref (He.ga K C))
  | val (v : V) : Rv φ I (.val v) v
inductive Rvs (φ : List Addr) (I : Hp) : List D → List V → Prop
  | nil : Rvs φ I [] []
  | cons {d : D} {v : V} {ds : List D} {vs : List V} : Rv φ I d v → Rvs φ I ds vs → Rvs φ I (d :: ds) (v :: vs)
end
/-- H' has all that H has -/
abbrev Ex (H H' : Hp) : Prop := ∀ a o, H a = some o → H' a = some o
/-- a cell's content lies as o -/
inductive Ho (φ : List Addr) (I : Hp) (a : Addr) : Cell → HO → Prop
  | ls {ds : List D} {vs : List V} : Rvs K φ I ds vs → Ho φ I a (.ls ds) (.lst vs)
  | dc {kvs : List (Key × D)} {us : List (Key × V)} : us.map (·.1) = kvs.map (·.1) → Rvs K φ I (kvs.map (·.2)) (us.map (·.2)) → Ho φ I a (.dc kvs) (.dK us)
  | dt {kvs : List (List Key × D)} {us : List (List Key × V)} : us.map (·.1) = kvs.map (·.1) → Rvs K φ I (kvs.map (·.2)) (us.map (·.2)) → Ho φ I a (.dt kvs) (.dT us)
  | ins {C : Str} {dx : Addr} {fs : List (Str × D)} {us : List (Str × V)} : us.map (·.1) = fs.map (·.1) → Rvs K φ I (fs.map (·.2)) (us.map (·.2)) → Ho φ I a (.ins C fs) (.ins (He.ga K C) dx us)
  | tab {q : Str} {ps : Array Value} : TriplesOk ps.toList → (∀ (pos : Pos) (cv : Value), codeAmong pos ps.toList = some cv → ∃ c, cv = .ref c ∧ I c = some (LamX.CodeO c q)) → Ho φ I a (.tab a q) (.tbl ps)
/-- the cell stands at a, and nothing that is shared leans on it -/
def CellAt (φ : List Addr) (I H : Hp) (a : Addr) (c : Cell) : Prop := ∃ o, H a = some o ∧ I a = none ∧ Ho K φ I a c o
end
/-- the heap, the things and what is shared at a def's entry -/
structure Ent where
  H0 : Hp
  p0 : List Addr
  I0 : Hp
  pf : List Addr
  If : Hp
/-- .. at a def's entry; pf, If: the floor, what is known to last from some place in the body on -/
abbrev Ent.at (H : Hp) (φ : List Addr) (I : Hp) : Ent := ⟨H, φ, I, φ, I⟩
/-- what the floor has is still there -/
structure Flo (E : Ent) (φ : List Addr) (I : Hp) : Prop where
  pf : E.pf <+: φ
  fi : Ex E.If I
theorem Flo.ii {E : Ent} {φ : List Addr} {I I' : Hp} (h : Flo E φ I) (e : ∀ a o, I a = some o → I' a = some o) : Flo E φ I' := ⟨h.pf, fun a o q => e a o (h.fi a o q)⟩
theorem Flo.pp {E : Ent} {φ φ' : List Addr} {I : Hp} (h : Flo E φ I) (e : φ <+: φ') : Flo E φ' I := ⟨h.pf.trans e, h.fi⟩
def Owns (env : List Slot) (σ : St) (i : Nat) (a : Addr) : Prop := ∃ c, env[i]? = some (Slot.ow c) ∧ σ[i]? = some (some (.ref a))
structure Rp (K : PySem.W.Frag) (E : Ent) (σ : St) (H : Hp) (st : State) (φ : List Addr) (I : Hp) : Prop where
  ext : Ex I H
  keep : ∀ a o, E.H0 a = some o → a ∉ E.p0 → H a = some o
  there : ∀ a, E.H0 a ≠ none → H a ≠ none
  inew : ∀ a, I a ≠ none → E.I0 a = none → E.H0 a = none ∨ a ∈ E.p0
  iold : Ex E.I0 I
  pre : ∃ more, φ = E.p0 ++ more
  fl : Flo E φ I
  pnew : ∀ a ∈ φ, a ∈ E.p0 ∨ E.H0 a = none
  nd : φ.Nodup
  len : φ.length = st.store.length
  cells : ∀ (i : Nat) c a, st.store[i]? = some c → φ[i]? = some a → c = .dead ∨ CellAt K φ I H a c
  pin : ∀ a ∈ φ, H a ≠ none
  elen : st.env.length = σ.length
  sh : ∀ (i : Nat) d, st.env[i]? = some (.sh d) → ∃ v, σ[i]? = some (some v) ∧ Rv K φ I d v
  ow : ∀ (i : Nat) c, st.env[i]? = some (.ow c) → ∃ a, σ[i]? = some (some (.ref a)) ∧ CellAt K φ I H a c ∧ a ∉ φ ∧ E.H0 a = none
  one : ∀ i j a, Owns st.env σ i a → Owns st.env σ j a → i = j
section
variable {K : PySem.W.Frag} {φ φ' : List Addr} {I I' H H' : Hp}
theorem pre_get {a : Addr} {n : Nat} (hp : φ <+: φ') (h : φ[n]? = some a) : φ'[n]? = some a := by
  obtain ⟨m, rfl⟩ := hp
  have hn : n < φ.length := (List.getElem?_eq_some_iff.mp h).1
  rw [List.getElem?_append_left hn]
  exact h
theorem Ex.refl (H : Hp) : Ex H H := fun _ _ h => h
theorem Ex.trans {A B C : Hp} (h : Ex A B) (k : Ex B C) : Ex A C := fun a o e => k a o (h a o e)
theorem rd_mono {a : Addr} {u : HO} (e : Ex I I') (h : Rd I a u) : Rd I' a u := h.elim (fun z => .inl (e _ _ z)) fun ⟨o, z⟩ => .inr ⟨o, e _ _ z⟩
theorem sqL_mono {a : Addr} {vs : List V} (e : Ex I I') (h : SqL K I a vs) : SqL K I' a vs := h.elim (fun z => .inl (rd_mono e z)) .inr
theorem sqT_mono {a : Addr} {vs : List V} (e : Ex I I') (h : SqT K I a vs) : SqT K I' a vs := h.elim (fun z => .inl (rd_mono e z)) .inr
theorem Rvs.mono' (hp : φ <+: φ') (e : Ex I I') {ds : List D} {vs : List V} (h : Rvs K φ I ds vs) (hm : ∀ d v, d ∈ ds → Rv K φ I d v → Rv K φ' I' d v) : Rvs K φ' I' ds vs := by
  induction ds generalizing vs with
  | nil => cases h; exact .nil
  | cons d ds ih =>
    cases h with
    | cons h1 h2 => exact .cons (hm _ _ (List.mem_cons_self ..) h1) (ih h2 fun d' v' m => hm d' v' (List.mem_cons_of_mem _ m))
theorem Rv.mono (hp : φ <+: φ') (e : Ex I I') {d : D} {v : V} (h : Rv K φ I d v) : Rv K φ' I' d v := by
  refine Rv.rec (motive_1 := fun d v _ => Rv K φ' I' d v) (motive_2 := fun ds vs _ => Rvs K φ' I' ds vs) .non .bl .int .str ?_ ?_ ?_ ?_ ?_ ?_ ?_ ?_ ?_ ?_ .cls .val .nil ?_ h
  · intro a vs ds h1 _ h2
    exact .tup (e _ _ h1) h2
  · intro a vs ds h1 _ h2
    exact .tpF (sqT_mono e h1) h2
  · intro a vs ds h1 _ h2
    exact .lst (e _ _ h1) h2
  · intro a vs ds h1 _ h2
    exact .lsF (sqL_mono e h1) h2
  · intro a us kvs od h1 h3 _ h2
    exact .dct (e _ _ h1) h3 h2
  · intro a us kvs od h1 h3 _ h2
    exact .dcT (e _ _ h1) h3 h2
  · intro n a h1
    exact .obj (pre_get hp h1)
  · intro C a dx us fs h1 h3 _ h2
    exact .rcd (e _ _ h1) h3 h2
  · intro C a h1
    exact .exn0 (e _ _ h1)
  · intro C a dx us fs h1 h2 h4 _ h3
    exact .exn (e _ _ h1) (e _ _ h2) h4 h3
  · intro d v ds vs _ _ h1 h2
    exact .cons h1 h2
theorem Rvs.mono (hp : φ <+: φ') (e : Ex I I') {ds : List D} {vs : List V} (h : Rvs K φ I ds vs) : Rvs K φ' I' ds vs := h.mono' hp e fun _ _ _ z => z.mono hp e
theorem Rvs.len {ds : List D} {vs : List V} (h : Rvs K φ I ds vs) : ds.length = vs.length := by
  induction ds generalizing vs with
  | nil => cases h; rfl
  | cons d ds ih =>
    cases h with
    | cons h1 h2 => rw [List.length_cons, List.length_cons, ih h2]
theorem Rvs.get {ds : List D} {vs : List V} (h : Rvs K φ I ds vs) {i : Nat} {d : D} (e : ds[i]? = some d) : ∃ v, vs[i]? = some v ∧ Rv K φ I d v := by
  induction ds generalizing vs i with
  | nil => simp at e
  | cons d0 ds ih =>
    cases h with
    | cons h1 h2 =>
      cases i with
      | zero =>
        simp only [List.getElem?_cons_zero, Option.some.injEq] at e
        subst e
        exact ⟨_, rfl, h1⟩
      | succ i => exact ih h2 (by simpa using e)
theorem Rvs.append {ds es : List D} {vs us : List V} (h : Rvs K φ I ds vs) (k : Rvs K φ I es us) : Rvs K φ I (ds ++ es) (vs ++ us) := by
  induction ds generalizing vs with
  | nil => cases h; exact k
  | cons d ds ih =>
    cases h with
    | cons h1 h2 => exact .cons h1 (ih h2)
theorem Rvs.take {ds : List D} {vs : List V} (h : Rvs K φ I ds vs) (n : Nat) : Rvs K φ I (ds.take n) (vs.take n) := by
  induction ds generalizing vs n with
  | nil => cases h; simpa using Rvs.nil
  | cons d ds ih =>
    cases h with
    | cons h1 h2 =>
      cases n with
      | zero => exact .nil
      | succ n => exact .cons h1 (ih h2 n)
theorem Rvs.drop {ds : List D} {vs : List V} (h : Rvs K φ I ds vs) (n : Nat) : Rvs K φ I (ds.drop n) (vs.drop n) := by
  induction ds generalizing vs n with
  | nil => cases h; simpa using Rvs.nil
  | cons d ds ih =>
    cases h with
    | cons h1 h2 =>
      cases n with
      | zero => exact .cons h1 h2
      | succ n => exact ih h2 n
theorem Rvs.set {ds : List D} {vs : List V} (h : Rvs K φ I ds vs) (i : Nat) {d : D} {v : V} (r : Rv K φ I d v) : Rvs K φ I (ds.set i d) (vs.set i v) := by
  induction ds generalizing vs i with
  | nil => cases h; exact .nil
  | cons d ds ih =>
    cases h with
    | cons h1 h2 =>
      cases i with
      | zero => exact .cons r h2
      | succ n => exact .cons h1 (ih h2 n)
theorem Ho.mono (hp : φ <+: φ') (e : Ex I I') {a : Addr} {c : Cell} {o : HO} (h : Ho K φ I a c o) : Ho K φ' I' a c o := by
  cases h with
  | ls h => exact .ls (h.mono hp e)
  | dc a h => exact .dc a (h.mono hp e)
  | dt a h => exact .dt a (h.mono hp e)
  | ins a h => exact .ins a (h.mono hp e)
  | tab h1 h2 => exact .tab h1 fun pos cv hc => let ⟨c, e1, e2⟩ := h2 pos cv hc; ⟨c, e1, e _ _ e2⟩
end
/-! ### a step: from (H, st, φ, I) to (H', st', φ', I'), the frame's slots as they were -/
structure Stp (σ : St) (H : Hp) (st : State) (φ : List Addr) (I : Hp) (H' : Hp) (st' : State) (φ' : List Addr) (I' : Hp) : Prop where
  pf : φ <+: φ'
  nf : ∀ a ∈ φ', a ∉ φ → H a = none
  ii : Ex I I'
  fr : ∀ a o, H a = some o → a ∉ φ → (∀ i, ¬ Owns st.env σ i a) → H' a = some o
  there : ∀ a, H a ≠ none → H' a ≠ none
  inf : ∀ a, I' a ≠ none → I a = none → H a = none ∨ a ∈ φ ∨ ∃ i, Owns st.env σ i a
  ow : ∀ i a, Owns st'.env σ i a → Owns st.env σ i a
theorem Stp.refl {σ : St} {H : Hp} {st : State} {φ : List Addr} {I : Hp} : Stp σ H st φ I H st φ I :=
  ⟨List.prefix_rfl, fun _ h n => absurd h n, Ex.refl _, fun _ _ e _ _ => e, fun _ h => h, fun a h n => absurd n h, fun _ _ h => h⟩
theorem Stp.trans {σ : St} {H H1 H2 : Hp} {st st1 st2 : State} {φ p1 p2 : List Addr} {I I1 I2 : Hp} (a : Stp σ H st φ I H1 st1 p1 I1) (b : Stp σ H1 st1 p1 I1 H2 st2 p2 I2) : Stp σ H st φ I H2 st2 p2 I2 where
  pf := a.pf.trans b.pf
  nf := fun x hx hn => by
    by_cases h : x ∈ p1
    · exact a.nf x h hn
    · cases q : H x with
      | none => rfl
      | some o => exact absurd (b.nf x hx h) (a.there x (by rw [q]; simp))
  ii := a.ii.trans b.ii
  fr := fun x o e hn ho => by
    refine b.fr x o (a.fr x o e hn ho) (fun h => ?_) fun i h => ho i (a.ow i x h)
    have := a.nf x h hn
    rw [e] at this
    cases this
  there := fun x h => b.there x (a.there x h)
  inf := fun x h hn => by
    cases q : I1 x with
    | some o => exact a.inf x (by rw [q]; simp) hn
    | none =>
      rcases b.inf x h q with z | z | ⟨i, z⟩
      · left
        cases q : H x with
        | none => rfl
        | some o => exact absurd z (a.there x (by rw [q]; simp))
      · by_cases hm : x ∈ φ
        · exact .inr (.inl hm)
        · exact .inl (a.nf x z hm)
      · exact .inr (.inr ⟨i, a.ow i x z⟩)
  ow := fun i x h => a.ow i x (b.ow i x h)
/-- a run's value lies as v -/
def Rr (K : PySem.W.Frag) (E : Ent) (σ : St) (H : Hp) (st : State) (φ : List Addr) (I : Hp) : RV → V → Prop
  | .sh d, v => Rv K φ I d v
  | .ow c, v => ∃ a, v = .ref a ∧ CellAt K φ I H a c ∧ a ∉ φ ∧ E.H0 a = none ∧ ∀ i, ¬ Owns st.env σ i a
  | .lo i, v => σ[i]? = some (some v)
/-- a value as it stands now: shared, or a thing with its content -/
def Seen (K : PySem.W.Frag) (φ : List Addr) (I H : Hp) (d : D) (v : V) : Prop := Rv K φ I d v ∨ ∃ a c, v = .ref a ∧ d = c.frz ∧ CellAt K φ I H a c
/-- an exception's fields -/
def Rx (K : PySem.W.Frag) (E : Ent) (φ : List Addr) (I H : Hp) : Option (List (Str × D)) → Option Addr → Prop
  | none, d => d = none
  | some fs, d => ∃ a us, d = some a ∧ E.H0 a = none ∧ H a = some (.xd us) ∧ us.map (·.1) = fs.map (·.1) ∧ Rvs K φ I (fs.map (·.2)) (us.map (·.2))
/-- a new thing, or the frame's own -/
def Nw (σ : L2.St) (H : Hp) (st : State) (r : RV) (v : V) : Prop := ∀ a c, r = .ow c → v = .ref a → H a = none
/-- what is wanted behind a run -/
def Po {α : Type} (K : PySem.W.Frag) (E : Ent) (W : WX) (σ : L2.St) (o : Out α) (H : Hp) (st : State) (φ : List Addr) (I : Hp) (k : α → Hp → State → List Addr → Hp → Prop) : Prop := match o with
  | .ok a st' => ∀ H' φ' I', Stp σ H st φ I H' st' φ' I' → Rp K E σ H' st' φ' I' → k a H' st' φ' I'
  | .exc c st' => ∀ d H' φ' I', Stp σ H st φ I H' st' φ' I' → Rp K E σ H' st' φ' I' → Rx K E φ' I' H' c.fs d → W (c.cls.val K) d σ H'
  | .stuck => False
/-- what a run tells of an expression, of a test, of arguments -/
def rdR (K : PySem.W.Frag) (E : Ent) (W : WX) (m : M RV) : TE := fun σ H Q => ∃ st φ I, Rp K E σ H st φ I ∧ Po K E W σ (m st) H st φ I fun r H' st' φ' I' => ∀ v, Rr K E σ H' st' φ' I' r v → Nw σ H st r v → Q v H'
def rdE (K : PySem.W.Frag) (E : Ent) (W : WX) (m : M D) : TE := fun σ H Q => ∃ st φ I, Rp K E σ H st φ I ∧ Po K E W σ (m st) H st φ I fun r H' st' φ' I' => ∀ v, Rv K φ' I' r v → Q v H'
def rdT (K : PySem.W.Frag) (E : Ent) (W : WX) (m : M Bool) : TT := fun σ H Q => ∃ st φ I, Rp K E σ H st φ I ∧ Po K E W σ (m st) H st φ I fun r H' st' φ' I' => Q r H'
def rdA (K : PySem.W.Frag) (E : Ent) (W : WX) (m : M (List D)) : TA := fun σ H Q => ∃ st φ I, Rp K E σ H st φ I ∧ Po K E W σ (m st) H st φ I fun r H' st' φ' I' => ∀ vs, Rvs K φ' I' r vs → Q vs H'
abbrev SR (X : Cx) (E : Ent) (W : WX) (e : Expr) (m : M RV) : Prop := PE X e (rdR X.K E W m)
abbrev SE (X : Cx) (E : Ent) (W : WX) (e : Expr) (m : M D) : Prop := PE X e (rdE X.K E W m)
abbrev ST (X : Cx) (E : Ent) (W : WX) (e : Expr) (m : M Bool) : Prop := PT X e (rdT X.K E W m)
abbrev SW (X : Cx) (E : Ent) (W : WX) (e : Expr) (m : M Bool) : Prop := PW X e (rdT X.K E W m)
abbrev SA (X : Cx) (E : Ent) (W : WX) (es : List Expr) (m : M (List D)) : Prop := PA X es (rdA X.K E W m)
inductive SOut where
  | nx (st : State) | rt (r : RV) (st : State) | bk (st : State) | ct (st : State) | exc (c : Exc) (st : State) | stuck
def MS := State → SOut
/-- the things and what is shared have grown -/
structure Grow (φ : List Addr) (I : Hp) (φ' : List Addr) (I' : Hp) : Prop where
  pf : φ <+: φ'
  ii : Ex I I'
def Ps (K : PySem.W.Frag) (E : Ent) (W : WX) (φ : List Addr) (I : Hp) (D : Ends) : SOut → Prop
  | .nx st' => ∀ σ' H' φ' I', Grow φ I φ' I' → Rp K E σ' H' st' φ' I' → D.nx σ' H'
  | .bk st' => ∀ σ' H' φ' I', Grow φ I φ' I' → Rp K E σ' H' st' φ' I' → D.bk σ' H'
  | .ct st' => ∀ σ' H' φ' I', Grow φ I φ' I' → Rp K E σ' H' st' φ' I' → D.ct σ' H'
  | .rt r st' => ∀ v σ' H' φ' I', Grow φ I φ' I' → Rp K E σ' H' st' φ' I' → Rr K E σ' H' st' φ' I' r v → D.rt v H'
  | .exc c st' => ∀ d σ' H' φ' I', Grow φ I φ' I' → Rp K E σ' H' st' φ' I' → Rx K E φ' I' H' c.fs d → W (c.cls.val K) d σ' H'
  | .stuck => False
def rdS (K : PySem.W.Frag) (E : Ent) (W : WX) (m : MS) : TS := fun D σ H => ∃ st φ I, Rp K E σ H st φ I ∧ Ps K E W φ I D (m st)
abbrev SS (X : Cx) (E : Ent) (W : WX) (st : Stmt) (m : MS) : Prop := PS X st (rdS X.K E W m)
abbrev SSs (X : Cx) (E : Ent) (W : WX) (st : List Stmt) (m : MS) : Prop := PSs X st (rdS X.K E W m)
end PM
set_option Elab.async false
set_option linter.all false
set_option maxRecDepth 100000
set_option maxHeartbeats 1200000
namespace PM
open PySem PySem.Spec L2
/-! ### weaker readings -/
section
variable {X : Cx}
theorem PEi {e : Expr} {t t' : TE} (h : PE X e t) (k : ∀ σ H Q, t' σ H Q → t σ H Q) : PE X e t' := ⟨fun p s σ H Q I q => h.run p s σ H Q I (k _ _ _ q)⟩
theorem PTi {e : Expr} {t t' : TT} (h : PT X e t) (k : ∀ σ H Q, t' σ H Q → t σ H Q) : PT X e t' := ⟨fun p s σ H Q I q => h.run p s σ H Q I (k _ _ _ q)⟩
theorem PWi {e : Expr} {t t' : TT} (h : PW X e t) (k : ∀ σ H Q, t' σ H Q → t σ H Q) : PW X e t' := ⟨fun w p s σ H Q I q => h.run w p s σ H Q I (k _ _ _ q)⟩
theorem PAi {e : List Expr} {t t' : TA} (h : PA X e t) (k : ∀ σ H Q, t' σ H Q → t σ H Q) : PA X e t' := ⟨fun pos p s σ H Q I q => h.run pos p s σ H Q I (k _ _ _ q)⟩
theorem PSi {e : Stmt} {t t' : TS} (h : PS X e t) (k : ∀ D σ H, t' D σ H → t D σ H) : PS X e t' := ⟨fun p s σ H Q I q => h.run p s σ H Q I (k _ _ _ q)⟩
theorem PSsi {e : List Stmt} {t t' : TS} (h : PSs X e t) (k : ∀ D σ H, t' D σ H → t D σ H) : PSs X e t' := ⟨fun p s σ H Q I q => h.run p s σ H Q I (k _ _ _ q)⟩
end
section
variable {K : PySem.W.Frag} {E : Ent} {σ : L2.St} {H : Hp} {st : State} {φ : List Addr} {I : Hp}
theorem ex_upd {J : Hp} {a : Addr} {o : HO} (h : J a = none) : Ex J (upd J a o) := fun b u e => by
  rw [upd_ne (ne_of_none e h)]
  exact e
theorem ex_upd2 {J J' : Hp} {a : Addr} {o : HO} (e : Ex J J') : Ex (upd J a o) (upd J' a o) := fun b u q => by
  by_cases hb : b = a
  · subst hb
    rw [upd_same] at q ⊢
    exact q
  · rw [upd_ne hb] at q ⊢
    exact e b u q
theorem Rp.fresh (R : Rp K E σ H st φ I) {p : Addr} (hp : H p = none) : E.H0 p = none ∧ p ∉ φ ∧ I p = none ∧ ∀ i, ¬ Owns st.env σ i p := by
  refine ⟨?_, fun h => R.pin p h hp, ?_, ?_⟩
  · cases q : E.H0 p with
    | none => rfl
    | some o => exact absurd hp (R.there p (by rw [q]; simp))
  · cases q : I p with
    | none => rfl
    | some o =>
      have := R.ext p o q
      rw [hp] at this
      cases this
  · rintro i ⟨c, h1, h2⟩
    obtain ⟨a, h3, ⟨o, h4, _⟩, _⟩ := R.ow i c h1
    rw [h2] at h3
    cases h3
    rw [hp] at h4
    cases h4
theorem CellAt.mono {I' H' : Hp} {φ' : List Addr} {a : Addr} {c : Cell} (h : CellAt K φ I H a c) (hp : φ <+: φ') (e : Ex I I') (hn : I' a = none) (hH : ∀ o, H a = some o → H' a = some o) : CellAt K φ' I' H' a c := by
  obtain ⟨o, h1, _, h3⟩ := h
  exact ⟨o, hH o h1, hn, h3.mono hp e⟩
/-- a new thing p is laid; it is shared -/
theorem Rp.laidS (R : Rp K E σ H st φ I) {p : Addr} (hp : H p = none) (o : HO) : Rp K E σ (upd H p o) st φ (upd I p o) ∧ Stp σ H st φ I (upd H p o) st φ (upd I p o) := by
  obtain ⟨h0, hφ, hI, ho⟩ := R.fresh hp
  have eH : Ex H (upd H p o) := ex_upd hp
  have eI : Ex I (upd I p o) := ex_upd hI
  refine ⟨⟨ex_upd2 R.ext, fun a u e n => eH _ _ (R.keep a u e n), fun a h => ?_, fun a h n => ?_, fun a u e => eI _ _ (R.iold a u e), R.pre, R.fl.ii eI, R.pnew, R.nd, R.len, fun i c a h1 h2 => ?_, fun a h => ?_, R.elen, fun i d h => ?_, fun i c h => ?_, R.one⟩, ?_⟩
  · by_cases hb : a = p
    · rw [hb, upd_same]; simp
    · rw [upd_ne hb]; exact R.there a h
  · by_cases hb : a = p
    · rw [hb]; exact .inl h0
    · rw [upd_ne hb] at h; exact R.inew a h n
  · rcases R.cells i c a h1 h2 with z | z
    · exact .inl z
    · have hb : a ≠ p := fun e => hφ (e ▸ List.mem_of_getElem? h2)
      refine .inr (z.mono List.prefix_rfl eI ?_ fun u e => eH _ _ e)
      rw [upd_ne hb]; exact z.choose_spec.2.1
  · by_cases hb : a = p
    · rw [hb, upd_same]; simp
    · rw [upd_ne hb]; exact R.pin a h
  · obtain ⟨v, h1, h2⟩ := R.sh i d h
    exact ⟨v, h1, h2.mono List.prefix_rfl eI⟩
  · obtain ⟨a, h1, h2, h3, h4⟩ := R.ow i c h
    have hb : a ≠ p := fun e => ho i ⟨c, h, e ▸ h1⟩
    refine ⟨a, h1, h2.mono List.prefix_rfl eI ?_ fun u e => eH _ _ e, h3, h4⟩
    rw [upd_ne hb]; exact h2.choose_spec.2.1
  · refine ⟨List.prefix_rfl, fun _ h n => absurd h n, eI, fun a u e _ _ => eH _ _ e, fun a h => ?_, fun a h n => ?_, fun _ _ h => h⟩
    · by_cases hb : a = p
      · rw [hb, upd_same]; simp
      · rw [upd_ne hb]; exact h
    · by_cases hb : a = p
      · rw [hb]; exact .inl hp
      · rw [upd_ne hb] at h; exact absurd n h
/-- a new thing p is laid; nobody shares it -/
theorem Rp.laidO (R : Rp K E σ H st φ I) {p : Addr} (hp : H p = none) (o : HO) : Rp K E σ (upd H p o) st φ I ∧ Stp σ H st φ I (upd H p o) st φ I := by
  obtain ⟨h0, hφ, hI, ho⟩ := R.fresh hp
  have eH : Ex H (upd H p o) := ex_upd hp
  refine ⟨⟨R.ext.trans eH, fun a u e n => eH _ _ (R.keep a u e n), fun a h => ?_, R.inew, R.iold, R.pre, R.fl, R.pnew, R.nd, R.len, fun i c a h1 h2 => ?_, fun a h => ?_, R.elen, R.sh, fun i c h => ?_, R.one⟩, ?_⟩
  · by_cases hb : a = p
    · rw [hb, upd_same]; simp
    · rw [upd_ne hb]; exact R.there a h
  · rcases R.cells i c a h1 h2 with z | z
    · exact .inl z
    · exact .inr (z.mono List.prefix_rfl (Ex.refl _) z.choose_spec.2.1 fun u e => eH _ _ e)
  · by_cases hb : a = p
    · rw [hb, upd_same]; simp
    · rw [upd_ne hb]; exact R.pin a h
  · obtain ⟨a, h1, h2, h3, h4⟩ := R.ow i c h
    exact ⟨a, h1, h2.mono List.prefix_rfl (Ex.refl _) h2.choose_spec.2.1 fun u e => eH _ _ e, h3, h4⟩
  · refine ⟨List.prefix_rfl, fun _ h n => absurd h n, Ex.refl _, fun a u e _ _ => eH _ _ e, fun a h => ?_, fun a h n => absurd n h, fun _ _ h => h⟩
    by_cases hb : a = p
    · rw [hb, upd_same]; simp
    · rw [upd_ne hb]; exact h
/-- a dict that is shared stands still from then on -/
def lk (od : Obj) : HO → HO
  | .dK us => .frz od (.dK us)
  | .dT us => .frz od (.dT us)
  | o => o
theorem upd_self {H : Hp} {a : Addr} {o : HO} (h : H a = some o) : upd H a o = H := by
  funext b
  by_cases hb : b = a
  · rw [hb, upd_same, h]
  · exact upd_ne hb
theorem Ho.frz {a : Addr} {c : Cell} {o : HO} {od : Obj} (h : Ho K φ I a c o) (e : I a = some (lk od o)) : Rv K φ I c.frz (.ref a) := by
  cases h with
  | ls h => exact .lst e h
  | dc k h => exact .dct e k h
  | dt k h => exact .dcT e k h
  | ins k h => exact .rcd e k h
  | tab _ _ => exact .val _
/-- what is nobody's becomes shared -/
theorem Rp.share (R : Rp K E σ H st φ I) {a : Addr} {c : Cell} {o : HO} (od : Obj) (e1 : H a = some o) (e2 : I a = none) (e3 : Ho K φ I a c o) (hφ : a ∉ φ) (h0 : E.H0 a = none) (ho : ∀ i, ¬ Owns st.env σ i a) :
    ∃ I', Rp K E σ (upd H a (lk od o)) st φ I' ∧ Ex I I' ∧ Rv K φ I' c.frz (.ref a) ∧ ∀ b, b ≠ a → I' b = I b := by
  have eI : Ex I (upd I a (lk od o)) := ex_upd e2
  have U : ∀ b, b ≠ a → upd H a (lk od o) b = H b := fun b hb => upd_ne hb
  have nI : ∀ b u, I b = some u → b ≠ a := fun b u q z => by rw [z, e2] at q; cases q
  have n0 : ∀ b u, E.H0 b = some u → b ≠ a := fun b u q z => by rw [z, h0] at q; cases q
  refine ⟨upd I a (lk od o), ⟨fun b u e => ?_, fun b u q n => by rw [U b (n0 b u q)]; exact R.keep b u q n, fun b q => ?_, fun b h n => ?_, fun b u e => eI _ _ (R.iold b u e), R.pre, R.fl.ii eI, R.pnew, R.nd, R.len, fun i c' b h1 h2 => ?_, fun b hb => ?_, R.elen, fun i d h => ?_, fun i c' h => ?_, R.one⟩, eI, ?_, fun b hb => upd_ne hb⟩
  · by_cases hb : b = a
    · subst hb
      rw [upd_same] at e ⊢
      exact e
    · rw [upd_ne hb] at e ⊢; exact R.ext b u e
  · by_cases hb : b = a
    · rw [hb, upd_same]; simp
    · rw [U b hb]; exact R.there b q
  · by_cases hb : b = a
    · rw [hb]; exact .inl h0
    · rw [upd_ne hb] at h; exact R.inew b h n
  · rcases R.cells i c' b h1 h2 with z | z
    · exact .inl z
    · have hb : b ≠ a := fun e => hφ (e ▸ List.mem_of_getElem? h2)
      obtain ⟨u, z1, z2, z3⟩ := z
      exact .inr ⟨u, by rw [U b hb]; exact z1, by rw [upd_ne hb]; exact z2, z3.mono List.prefix_rfl eI⟩
  · rw [U b (fun e => hφ (e ▸ hb))]; exact R.pin b hb
  · obtain ⟨v, h1, h2⟩ := R.sh i d h
    exact ⟨v, h1, h2.mono List.prefix_rfl eI⟩
  · obtain ⟨b, h1, ⟨u, z1, z2, z3⟩, h3, h4⟩ := R.ow i c' h
    have hb : b ≠ a := fun e => ho i ⟨c', h, e ▸ h1⟩
    exact ⟨b, h1, ⟨u, by rw [U b hb]; exact z1, by rw [upd_ne hb]; exact z2, z3.mono List.prefix_rfl eI⟩, h3, h4⟩
  · exact (e3.mono List.prefix_rfl eI).frz (od := od) (by rw [upd_same])
/-- where a wish may look from, the view changed at will -/
def Gh (H : Hp) (v : V) (Q : V → Hp → Prop) : Prop := Q v H ∨ ∃ a o, v = .ref a ∧ H a = some o ∧ Mut (some o) ∧ ∀ od, Q v (upd H a (.frz od o))
theorem gh_of {H : Hp} {a : Addr} {c : Cell} {o : HO} {Q : V → Hp → Prop} (h : H a = some o) (hc : Ho K φ I a c o) (q : ∀ od, Q (.ref a) (upd H a (lk od o))) : Gh H (.ref a) Q := by
  cases hc with
  | ls _ => exact .inl (by have := q default; rwa [show lk default (.lst _) = .lst _ from rfl, upd_self h] at this)
  | dc _ _ => exact .inr ⟨a, _, rfl, h, True.intro, fun od => q od⟩
  | dt _ _ => exact .inr ⟨a, _, rfl, h, True.intro, fun od => q od⟩
  | ins _ _ => exact .inl (by have := q default; rwa [show lk default (.ins _ _ _) = .ins _ _ _ from rfl, upd_self h] at this)
  | tab _ _ => exact .inl (by have := q default; rwa [show lk default (.tbl _) = .tbl _ from rfl, upd_self h] at this)
theorem pe_gh {X : Cx} {e : Expr} {t : TE} (h : PE X e t) : PE X e (fun σ H Q => t σ H fun v H1 => Gh H1 v Q) := ⟨fun pins s σ H Q I hh => thn (h.run pins s σ H _ I hh) fun u s1 ⟨v, H1, I1, r, q⟩ => by
  rcases q with q | ⟨a, o, rfl, h1, mu, q⟩
  · exact ⟨v, H1, I1, r, q⟩
  · obtain ⟨od, I2⟩ := I1.lock h1 mu
    exact ⟨.ref a, _, I2, r, q od⟩⟩
/-- a run's value, shared -/
theorem Rp.shareR (R : Rp K E σ H st φ I) {H0 I0 : Hp} {st0 : State} {p0 : List Addr} (S : Stp σ H0 st0 p0 I0 H st φ I) {c : Cell} {v : V} (h : Rr K E σ H st φ I (.ow c) v) (hf : Nw σ H0 st0 (.ow c) v) {Q : V → Hp → Prop}
    (hq : ∀ H' I', Rp K E σ H' st φ I' → Stp σ H0 st0 p0 I0 H' st φ I' → Rv K φ I' c.frz v → Q v H') : Gh H v Q := by
  · obtain ⟨a, rfl, ⟨o, z1, z2, z3⟩, h2, h3, h4⟩ := h
    refine gh_of z1 z3 fun od => ?_
    obtain ⟨I', R', e, hv, hb⟩ := R.share od z1 z2 z3 h2 h3 h4
    have na : H0 a = none := hf a c rfl rfl
    refine hq _ I' R' ⟨S.pf, S.nf, S.ii.trans e, fun b u q n no => ?_, fun b q => ?_, fun b h n => ?_, S.ow⟩ hv
    · rw [upd_ne (fun z => by rw [z, na] at q; cases q)]
      exact S.fr b u q n no
    · rw [upd_ne (fun z => q (by rw [z]; exact na))]
      exact S.there b q
    · by_cases q : b = a
      · subst q
        exact .inl na
      · rw [hb b q] at h
        exact S.inf b h n
/-- a slot of the frame's own becomes shared -/
theorem Rp.frzSlot (R : Rp K E σ H st φ I) {i : Nat} {c : Cell} (h : st.env[i]? = some (.ow c)) :
    ∃ v, σ[i]? = some (some v) ∧ ∀ {Q : V → Hp → Prop}, (∀ H' I', Rp K E σ H' { st with env := st.env.set i (.sh c.frz) } φ I' → Stp σ H st φ I H' { st with env := st.env.set i (.sh c.frz) } φ I' → Rv K φ I' c.frz v → Q v H') → Gh H v Q := by
  obtain ⟨a, h1, ⟨o, z1, z2, z3⟩, h3, h4⟩ := R.ow i c h
  have hi : i < st.env.length := (List.getElem?_eq_some_iff.mp h).1
  have sub : ∀ j b, Owns (st.env.set i (.sh c.frz)) σ j b → Owns st.env σ j b ∧ j ≠ i := by
    rintro j b ⟨c', q1, q2⟩
    have hj : j ≠ i := by
      intro e
      subst e
      rw [List.getElem?_set_self hi] at q1
      cases q1
    rw [List.getElem?_set_ne (Ne.symm hj)] at q1
    exact ⟨⟨c', q1, q2⟩, hj⟩
  have R1 : Rp K E σ H { st with env := st.env.set i .un } φ I := ⟨R.ext, R.keep, R.there, R.inew, R.iold, R.pre, R.fl, R.pnew, R.nd, R.len, R.cells, R.pin, by
      show (st.env.set i .un).length = _
      rw [List.length_set]
      exact R.elen, fun j d q => by
      by_cases hj : j = i
      · subst hj
        rw [show ({ st with env := st.env.set j .un } : State).env[j]? = some .un from List.getElem?_set_self hi] at q
        cases q
      · exact R.sh j d (by rw [← q]; exact (List.getElem?_set_ne (Ne.symm hj)).symm), fun j d q => by
      by_cases hj : j = i
      · subst hj
        rw [show ({ st with env := st.env.set j .un } : State).env[j]? = some .un from List.getElem?_set_self hi] at q
        cases q
      · exact R.ow j d (by rw [← q]; exact (List.getElem?_set_ne (Ne.symm hj)).symm), fun j k b q1 q2 => by
      have up : ∀ j b, Owns (st.env.set i .un) σ j b → Owns st.env σ j b := by
        rintro j b ⟨c', q1, q2⟩
        have hj : j ≠ i := by
          intro e
          subst e
          rw [List.getElem?_set_self hi] at q1
          cases q1
        rw [List.getElem?_set_ne (Ne.symm hj)] at q1
        exact ⟨c', q1, q2⟩
      exact R.one j k b (up _ _ q1) (up _ _ q2)⟩
  have no : ∀ j, ¬ Owns (st.env.set i .un) σ j a := by
    rintro j ⟨c', q1, q2⟩
    have hj : j ≠ i := by
      intro e
      subst e
      rw [List.getElem?_set_self hi] at q1
      cases q1
    rw [List.getElem?_set_ne (Ne.symm hj)] at q1
    exact hj (R.one j i a ⟨c', q1, q2⟩ ⟨c, h, h1⟩)
  refine ⟨.ref a, h1, fun {Q} hq => gh_of z1 z3 fun od => ?_⟩
  obtain ⟨I', R2, e, hv, hb⟩ := R1.share od z1 z2 z3 h3 h4 no
  refine hq _ I' ⟨R2.ext, R2.keep, R2.there, R2.inew, R2.iold, R2.pre, R2.fl, R2.pnew, R2.nd, R2.len, R2.cells, R2.pin, by
      show (st.env.set i _).length = _
      rw [List.length_set]
      exact R.elen, fun j d q => ?_, fun j d q => ?_, fun j k b q1 q2 => R.one j k b (sub _ _ q1).1 (sub _ _ q2).1⟩ ⟨List.prefix_rfl, fun _ h n => absurd h n, e, fun b u z _ m => by rw [upd_ne (fun y => m i ⟨c, h, by rw [y]; exact h1⟩)]; exact z, fun b z => by
        by_cases hb2 : b = a
        · rw [hb2, upd_same]; simp
        · rw [upd_ne hb2]; exact z, fun b z n => ?_, fun j b q => (sub j b q).1⟩ hv
  · by_cases hj : j = i
    · subst hj
      rw [show ({ st with env := st.env.set j (.sh c.frz) } : State).env[j]? = some (.sh c.frz) from List.getElem?_set_self hi] at q
      cases q
      exact ⟨_, h1, hv⟩
    · exact R2.sh j d (by rw [← q]; exact (List.getElem?_set_ne (Ne.symm hj)).trans (List.getElem?_set_ne (Ne.symm hj)).symm)
  · by_cases hj : j = i
    · subst hj
      rw [show ({ st with env := st.env.set j (.sh c.frz) } : State).env[j]? = some (.sh c.frz) from List.getElem?_set_self hi] at q
      cases q
    · exact R2.ow j d (by rw [← q]; exact (List.getElem?_set_ne (Ne.symm hj)).trans (List.getElem?_set_ne (Ne.symm hj)).symm)
  · by_cases hb' : b = a
    · subst hb'
      exact .inr (.inr ⟨i, c, h, h1⟩)
    · rw [hb b hb'] at z
      exact absurd n z
def RV.slot : RV → Slot
  | .sh d => .sh d
  | .ow c => .ow c
  | .lo _ => .un
/-- a name gets a value -/
theorem Rp.setR (R : Rp K E σ H st φ I) {i : Nat} {r : RV} {v : V} (hr : Rr K E σ H st φ I r v) : Rp K E (σ.set i (some v)) H { st with env := st.env.set i r.slot } φ I := by
  have up : ∀ j b, Owns (st.env.set i r.slot) (σ.set i (some v)) j b → j ≠ i → Owns st.env σ j b := by
    rintro j b ⟨c', q1, q2⟩ hj
    rw [List.getElem?_set_ne (Ne.symm hj)] at q1 q2
    exact ⟨c', q1, q2⟩
  have self : ∀ b, Owns (st.env.set i r.slot) (σ.set i (some v)) i b → v = .ref b ∧ ∃ c, r = .ow c := by
    rintro b ⟨c', q1, q2⟩
    have hi : i < st.env.length := by
      have := (List.getElem?_eq_some_iff.mp q1).1
      rwa [List.length_set] at this
    rw [List.getElem?_set_self hi] at q1
    rw [List.getElem?_set_self (by rw [← R.elen]; exact hi)] at q2
    refine ⟨by simpa using q2, ?_⟩
    cases r with
    | sh d => cases q1
    | ow c => exact ⟨c, rfl⟩
    | lo i => cases q1
  have own : ∀ a c, r = .ow c → v = .ref a → ∀ j, ¬ Owns st.env σ j a := by
    rintro a c rfl rfl
    obtain ⟨a', e, _, _, _, h⟩ := hr
    cases e
    exact h
  refine ⟨R.ext, R.keep, R.there, R.inew, R.iold, R.pre, R.fl, R.pnew, R.nd, R.len, R.cells, R.pin, ?_, fun j d q => ?_, fun j d q => ?_, fun j k b q1 q2 => ?_⟩
  · show (st.env.set i _).length = _
    rw [List.length_set, List.length_set]
    exact R.elen
  · replace q : (st.env.set i r.slot)[j]? = some (Slot.sh d) := q
    by_cases hj : j = i
    · subst hj
      have hi : j < st.env.length := by
        have := (List.getElem?_eq_some_iff.mp q).1
        rwa [List.length_set] at this
      rw [List.getElem?_set_self hi] at q
      cases r with
      | sh d' =>
        cases q
        exact ⟨v, List.getElem?_set_self (by rw [← R.elen]; exact hi), hr⟩
      | ow c => cases q
      | lo i => cases q
    · rw [List.getElem?_set_ne (Ne.symm hj)] at q ⊢
      exact R.sh j d q
  · replace q : (st.env.set i r.slot)[j]? = some (Slot.ow d) := q
    by_cases hj : j = i
    · subst hj
      have hi : j < st.env.length := by
        have := (List.getElem?_eq_some_iff.mp q).1
        rwa [List.length_set] at this
      rw [List.getElem?_set_self hi] at q
      cases r with
      | sh d' => cases q
      | lo i => cases q
      | ow c =>
        cases q
        obtain ⟨a, rfl, h1, h2, h3, _⟩ := hr
        exact ⟨a, List.getElem?_set_self (by rw [← R.elen]; exact hi), h1, h2, h3⟩
    · rw [List.getElem?_set_ne (Ne.symm hj)] at q ⊢
      exact R.ow j d q
  · by_cases hj : j = i
    · subst hj
      by_cases hk : k = j
      · exact hk.symm
      · obtain ⟨e1, c, e2⟩ := self b q1
        exact absurd (up k b q2 hk) (own b c e2 e1 k)
    · by_cases hk : k = i
      · subst hk
        obtain ⟨e1, c, e2⟩ := self b q2
        exact absurd (up j b q1 hj) (own b c e2 e1 j)
      · exact R.one j k b (up j b q1 hj) (up k b q2 hk)
end
/-! ### one run behind another -/
section
variable {K : PySem.W.Frag} {E : Ent} {W : WX} {σ : L2.St} {H : Hp} {st : State} {φ : List Addr} {I : Hp} {α β : Type}
theorem Po.imp {o : Out α} {k k' : α → Hp → State → List Addr → Hp → Prop} (h : Po K E W σ o H st φ I k) (hk : ∀ a H' st' φ' I', Stp σ H st φ I H' st' φ' I' → Rp K E σ H' st' φ' I' → k a H' st' φ' I' → k' a H' st' φ' I') : Po K E W σ o H st φ I k' := by
  cases o with
  | ok a st' => exact fun H' φ' I' S R => hk _ _ _ _ _ S R (h H' φ' I' S R)
  | exc c st' => exact h
  | stuck => exact h
theorem Po.bind {m : M α} {f : α → M β} {k : β → Hp → State → List Addr → Hp → Prop} (h : Po K E W σ (m.bind f st) H st φ I k) :
    Po K E W σ (m st) H st φ I fun a H1 st1 φ1 I1 => Po K E W σ (f a st1) H1 st1 φ1 I1 k := by
  unfold M.bind at h
  cases e : m st with
  | ok a st1 =>
    rw [e] at h
    simp only at h
    intro H1 φ1 I1 S1 R1
    cases e2 : f a st1 with
    | ok b st2 =>
      rw [e2] at h
      exact fun H2 φ2 I2 S2 R2 => h H2 φ2 I2 (S1.trans S2) R2
    | exc c st2 =>
      rw [e2] at h
      exact fun d H2 φ2 I2 S2 R2 => h d H2 φ2 I2 (S1.trans S2) R2
    | stuck => rw [e2] at h; exact h
  | exc c st1 => rw [e] at h; exact h
  | stuck => rw [e] at h; exact h
theorem Po.pure {a : α} {k : α → Hp → State → List Addr → Hp → Prop} (h : Po K E W σ (M.pure a st) H st φ I k) (R : Rp K E σ H st φ I) : k a H st φ I := h H φ I Stp.refl R
theorem Po.ofO {o : Option α} {k : α → Hp → State → List Addr → Hp → Prop} (h : Po K E W σ (M.ofO o st) H st φ I k) : ∃ a, o = some a ∧ ∀ H' φ' I', Stp σ H st φ I H' st φ' I' → Rp K E σ H' st φ' I' → k a H' st φ' I' := by
  cases o with
  | none => exact h.elim
  | some a => exact ⟨a, rfl, h⟩
theorem Nw.back {H1 : Hp} {st1 : State} {φ1 : List Addr} {I1 : Hp} {r : RV} {v : V} (S : Stp σ H st φ I H1 st1 φ1 I1) (h : Nw σ H1 st1 r v) : Nw σ H st r v := fun a c e1 e2 => by
  have z := h a c e1 e2
  cases q : H a with
  | none => rfl
  | some o => exact absurd z (S.there a (by rw [q]; simp))
theorem Nw.sh {d : D} {v : V} : Nw σ H st (.sh d) v := fun _ _ e => by cases e
end
/-- a slot's value, shared -/
theorem Rp.var {K : PySem.W.Frag} {E : Ent} {W : WX} {σ : L2.St} {H : Hp} {st : State} {φ : List Addr} {I : Hp} (R : Rp K E σ H st φ I) {i : Nat} {k : D → Hp → State → List Addr → Hp → Prop} (p : Po K E W σ (mVar i st) H st φ I k) :
    ∃ v, σ[i]? = some (some v) ∧ ∀ {Q : V → Hp → Prop}, (∀ d H' st' I', Stp σ H st φ I H' st' φ I' → Rp K E σ H' st' φ I' → Rv K φ I' d v → k d H' st' φ I' → Q v H') → Gh H v Q := by
  unfold mVar at p
  cases e : st.env[i]? with
  | none => rw [e] at p; exact p.elim
  | some s =>
    rw [e] at p
    cases s with
    | un => exact p.elim
    | sh d =>
      obtain ⟨v, h1, h2⟩ := R.sh i d e
      exact ⟨v, h1, fun q => .inl (q d H st I Stp.refl R h2 (p H φ I Stp.refl R))⟩
    | ow c =>
      obtain ⟨v, h1, g⟩ := R.frzSlot e
      exact ⟨v, h1, fun q => g fun H' I' R' S' hv => q _ H' _ I' S' R' hv (p H' φ I' S' R')⟩
/-- a new thing's value may be shared at once -/
theorem se_frz {X : Cx} {E : Ent} {W : WX} {e : Expr} {m : M RV} (h : SR X E W e m) : SE X E W e m.frz := PEi (pe_gh h) fun σ H Q ⟨st, φ, I, R, p⟩ => by
  refine ⟨st, φ, I, R, ?_⟩
  unfold M.frz M.bind at p
  cases e : m st with
  | ok r st1 =>
    rw [e] at p
    intro H1 φ1 I1 S1 R1 v hr hn
    cases r with
    | sh d => exact .inl (p H1 φ1 I1 S1 R1 v hr)
    | ow c =>
      exact R1.shareR S1 hr hn fun H2 I2 R2 S2 hv => p H2 φ1 I2 S2 R2 v hv
    | lo i =>
      have p' : Po X.K E W σ (mVar i st1) H1 st1 φ1 I1 fun d H' st' φ' I' => ∀ v, Rv X.K φ' I' d v → Q v H' := by
        simp only [RV.frz] at p
        cases e2 : mVar i st1 with
        | ok d st2 =>
          rw [e2] at p
          exact fun H2 φ2 I2 S2 R2 => p H2 φ2 I2 (S1.trans S2) R2
        | exc c st2 =>
          rw [e2] at p
          exact fun d H2 φ2 I2 S2 R2 => p d H2 φ2 I2 (S1.trans S2) R2
        | stuck => rw [e2] at p; exact p
      obtain ⟨v', h1, g⟩ := R1.var p'
      have hr' : σ[i]? = some (some v) := hr
      rw [hr'] at h1
      cases h1
      exact g fun d H' st' I' S' R' hv q => q v hv
  | exc c st1 => rw [e] at p; exact p
  | stuck => rw [e] at p; exact p
/-- what is new shared, the frame's own left -/
theorem sr_bor {X : Cx} {E : Ent} {W : WX} {e : Expr} {m : M RV} (h : SR X E W e m) : SR X E W e m.bor := PEi (pe_gh h) fun σ H Q ⟨st, φ, I, R, p⟩ => by
  refine ⟨st, φ, I, R, ?_⟩
  unfold M.bor M.bind at p
  cases e : m st with
  | ok r st1 =>
    rw [e] at p
    intro H1 φ1 I1 S1 R1 v hr hn
    cases r with
    | sh d => exact .inl (p H1 φ1 I1 S1 R1 v hr hn)
    | lo i => exact .inl (p H1 φ1 I1 S1 R1 v hr hn)
    | ow c =>
      exact R1.shareR S1 hr hn fun H2 I2 R2 S2 hv => p H2 φ1 I2 S2 R2 v hv Nw.sh
  | exc c st1 => rw [e] at p; exact p
  | stuck => rw [e] at p; exact p
/-- a value seen later -/
theorem Rr.seen {K : PySem.W.Frag} {E : Ent} {σ : L2.St} {H H' : Hp} {st st' : State} {φ φ' : List Addr} {I I' : Hp} {r : RV} {v : V} {d : D} (hr : Rr K E σ H st φ I r v) (S : Stp σ H st φ I H' st' φ' I') (R : Rp K E σ H' st' φ' I') (hd : view st' r = some d) : Seen K φ' I' H' d v := by
  cases r with
  | ow c => cases hd
  | lo i =>
    simp only [view] at hd
    have hs : σ[i]? = some (some v) := hr
    cases e : st'.env[i]? with
    | none => rw [e] at hd; cases hd
    | some s =>
      rw [e] at hd
      cases s with
      | un => cases hd
      | sh d' =>
        cases hd
        obtain ⟨u, h1, h2⟩ := R.sh i d e
        rw [hs] at h1
        cases h1
        exact .inl h2
      | ow c =>
        cases hd
        obtain ⟨a, h1, h2, _⟩ := R.ow i c e
        rw [hs] at h1
        cases h1
        exact .inr ⟨a, c, rfl, rfl, h2⟩
  | sh d0 =>
    have hv : Rv K φ' I' d0 v := Rv.mono S.pf S.ii hr
    by_cases ho : ∃ n, d0 = .obj n
    · obtain ⟨n, rfl⟩ := ho
      simp only [view] at hd
      cases hv with
      | obj h =>
        rename_i a
        cases e : st'.store[n]? with
        | none => rw [e] at hd; cases hd
        | some c =>
          rw [e] at hd
          have hc := R.cells n c a e h
          cases c with
          | dead => cases hd
          | ls ds =>
            cases hd
            exact .inr ⟨a, _, rfl, rfl, hc.elim (fun z => by cases z) id⟩
          | dc ds =>
            cases hd
            exact .inr ⟨a, _, rfl, rfl, hc.elim (fun z => by cases z) id⟩
          | dt ds =>
            cases hd
            exact .inr ⟨a, _, rfl, rfl, hc.elim (fun z => by cases z) id⟩
          | ins C fs =>
            cases hd
            exact .inl (.obj h)
          | tab P q => cases hd
    · have : view st' (.sh d0) = some d0 := by
        cases d0 <;> first | rfl | exact absurd ⟨_, rfl⟩ ho
      rw [this] at hd
      cases hd
      exact .inl hv
end PM
set_option Elab.async false
set_option linter.all false
set_option maxRecDepth 100000
set_option maxHeartbeats 1200000
namespace PM
open PySem PySem.Spec L2
/-! ### small runs -/
def mV (i : Nat) : M RV := fun st => match st.env[i]? with
  | some (.sh d) => .ok (.sh d) st
  | some (.ow _) => .ok (.lo i) st
  | _ => .stuck
def mL (d : D) : M RV := M.pure (.sh d)
def at2 {α : Type} (g : D → D → Option α) (r s : RV) : M α := fun st => match view st r, view st s with
  | some x, some y => M.ofO (g x y) st
  | _, _ => .stuck
def at1 {α : Type} (g : D → Option α) (r : RV) : M α := fun st => match view st r with
  | some x => M.ofO (g x) st
  | none => .stuck
def mOp (g : D → D → Option RV) (a b : M RV) : M RV := a.bor.bind fun r => b.bor.bind fun s => at2 g r s
def mUn (g : D → Option RV) (a : M RV) : M RV := a.bor.bind fun r => at1 g r
def mCmp (g : D → D → Option Bool) (a b : M RV) : M Bool := a.bor.bind fun r => b.bor.bind fun s => at2 g r s
def mBl (m : M Bool) : M RV := m.bind fun b => M.pure (.sh (.bl b))
def mAnd (a b : M Bool) : M Bool := a.bind fun c => if c then b else M.pure false
def mOr (a b : M Bool) : M Bool := a.bind fun c => if c then M.pure true else b
def mNot (a : M Bool) : M Bool := a.bind fun c => M.pure (!c)
def mIf {α : Type} (c : M Bool) (a b : M α) : M α := c.bind fun k => if k then a else b
def mNil : M (List D) := M.pure []
def mCons (a : M RV) (r : M (List D)) : M (List D) := a.frz.bind fun x => r.bind fun xs => M.pure (x :: xs)
/-- the largest number of items that is looked at -/
def lim : Nat := 1000000
theorem lim_le : lim ≤ sizeLine := by decide
theorem lim_lt : lim < sizeLine := by decide
def M.small {α : Type} (n : Nat) (m : M α) : M α := if n ≤ lim then m else M.stuck
def mTup (m : M (List D)) : M RV := m.bind fun xs => M.small xs.length (M.pure (.sh (.tup xs)))
def mLst (m : M (List D)) : M RV := m.bind fun xs => M.small xs.length (M.pure (.ow (.ls xs)))
section
variable {K : PySem.W.Frag} {E : Ent} {W : WX} {σ : L2.St} {H : Hp} {st : State} {φ : List Addr} {I : Hp} {α : Type}
theorem Po.small {n : Nat} {m : M α} {k : α → Hp → State → List Addr → Hp → Prop} (h : Po K E W σ (M.small n m st) H st φ I k) : n ≤ lim ∧ Po K E W σ (m st) H st φ I k := by
  unfold M.small at h
  by_cases hn : n ≤ lim
  · rw [if_pos hn] at h; exact ⟨hn, h⟩
  · rw [if_neg hn] at h; exact h.elim
theorem Po.at2 {g : D → D → Option α} {r s : RV} {k : α → Hp → State → List Addr → Hp → Prop} (h : Po K E W σ (at2 g r s st) H st φ I k) :
    ∃ x y a, view st r = some x ∧ view st s = some y ∧ g x y = some a ∧ ∀ H' φ' I', Stp σ H st φ I H' st φ' I' → Rp K E σ H' st φ' I' → k a H' st φ' I' := by
  unfold PM.at2 at h
  cases e1 : view st r with
  | none => rw [e1] at h; exact h.elim
  | some x =>
    cases e2 : view st s with
    | none => rw [e1, e2] at h; exact h.elim
    | some y =>
      rw [e1, e2] at h
      simp only at h
      cases e3 : g x y with
      | none => rw [e3] at h; exact h.elim
      | some a => rw [e3] at h; exact ⟨x, y, a, rfl, rfl, e3, h⟩
theorem Po.at1 {g : D → Option α} {r : RV} {k : α → Hp → State → List Addr → Hp → Prop} (h : Po K E W σ (at1 g r st) H st φ I k) :
    ∃ x a, view st r = some x ∧ g x = some a ∧ ∀ H' φ' I', Stp σ H st φ I H' st φ' I' → Rp K E σ H' st φ' I' → k a H' st φ' I' := by
  unfold PM.at1 at h
  cases e1 : view st r with
  | none => rw [e1] at h; exact h.elim
  | some x =>
    rw [e1] at h
    simp only at h
    cases e3 : g x with
    | none => rw [e3] at h; exact h.elim
    | some a => rw [e3] at h; exact ⟨x, a, rfl, e3, h⟩
theorem Seen.rv {d : D} {v : V} (h : Rv K φ I d v) : Seen K φ I H d v := .inl h
end
section
variable {X : Cx} {E : Ent} {W : WX} {pos : Pos}
theorem sr_lit {e : Expr} {d : D} {v : V} (h : PE X e (tC v)) (hv : ∀ φ I, Rv X.K φ I d v) : SR X E W e (mL d) := PEi h fun σ H Q ⟨st, φ, I, R, p⟩ => p.pure R v (hv _ _) Nw.sh
theorem sr_int {i j pos} : SR X E W (.Constant (.int i) j pos) (mL (.int i)) := sr_lit pe_int fun _ _ => .int i
theorem sr_bl {b j pos} : SR X E W (.Constant (.bool b) j pos) (mL (.bl b)) := sr_lit pe_bl fun _ _ => .bl b
theorem sr_non {j pos} : SR X E W (.Constant .none j pos) (mL .non) := sr_lit pe_non fun _ _ => .non
theorem sr_str {x j pos} : SR X E W (.Constant (.str x) j pos) (mL (.str x)) := sr_lit pe_str fun _ _ => .str x
theorem sr_v (i : Nat) {x : Str} {pos : Pos} (hN : X.N[i]? = some x := by rfl) (hv : Vis X.env.scope x := by first | exact Or.inl rfl | exact Or.inr (Or.inl rfl) | exact Or.inr (Or.inr rfl)) (hd : (x == ("__debug__" : Str)) = false := by decide)
    (hcd : (x == ("__classdict__" : Str)) = false := by decide) : SR X E W (.Name x pos) (mV i) := PEi (pe_var hN hv hd hcd) fun σ H Q ⟨st, φ, I, R, p⟩ => by
  unfold mV at p
  cases e : st.env[i]? with
  | none => rw [e] at p; exact p.elim
  | some s =>
    rw [e] at p
    cases s with
    | un => exact p.elim
    | sh d =>
      obtain ⟨v, h1, h2⟩ := R.sh i d e
      exact ⟨v, h1, p H φ I Stp.refl R v h2 Nw.sh⟩
    | ow c =>
      obtain ⟨a, h1, h2⟩ := R.ow i c e
      exact ⟨_, h1, p H φ I Stp.refl R _ h1 fun _ _ q => by cases q⟩
/-! ### operations of values -/
/-- the value of an operation that changes nothing -/
def Af (K : PySem.W.Frag) (E : Ent) (σ : L2.St) (H : Hp) (st : State) (φ : List Addr) (I : Hp) (r : RV) (Q : VK) : Prop :=
  ∀ u H' I', Stp σ H st φ I H' st φ I' → Rp K E σ H' st φ I' → Rr K E σ H' st φ I' r u → (∀ a c, r = .ow c → u = .ref a → H a = none) → Q u H'
def rdO (K : PySem.W.Frag) (E : Ent) (g : D → D → Option RV) : R2 := fun v w H Q => ∃ σ st φ I x y r, Rp K E σ H st φ I ∧ Seen K φ I H x v ∧ Seen K φ I H y w ∧ g x y = some r ∧ Af K E σ H st φ I r Q
def rdB (K : PySem.W.Frag) (E : Ent) (g : D → D → Option Bool) : R2 := fun v w H Q => ∃ σ st φ I x y r, Rp K E σ H st φ I ∧ Seen K φ I H x v ∧ Seen K φ I H y w ∧ g x y = some r ∧ Q (.bl r) H
def rdU (K : PySem.W.Frag) (E : Ent) (g : D → Option RV) : V → Hp → VK → Prop := fun v H Q => ∃ σ st φ I x r, Rp K E σ H st φ I ∧ Seen K φ I H x v ∧ g x = some r ∧ Af K E σ H st φ I r Q
abbrev OpS (X : Cx) (E : Ent) (f : Value → Value → Sem Value) (g : D → D → Option RV) : Prop := OpR X f (rdO X.K E g)
abbrev OpB (X : Cx) (E : Ent) (f : Value → Value → Sem Value) (g : D → D → Option Bool) : Prop := OpR X f (rdB X.K E g)
variable {a b c : Expr} {ma mb mc : M RV} {g : D → D → Option RV} {gb : D → D → Option Bool} {gu : D → Option RV}
theorem Nw.far {σ : L2.St} {H H1 : Hp} {st : State} {r : RV} {v : V} (ht : ∀ a, H a ≠ none → H1 a ≠ none) (hn : ∀ a c, r = .ow c → v = .ref a → H1 a = none) : Nw σ H st r v := fun a c e1 e2 => (by
  have := hn a c e1 e2
  cases q : H a with
  | none => rfl
  | some o => exact absurd this (ht a (by rw [q]; simp)))
theorem rd_op {σ : L2.St} {H : Hp} {Q : VK} (h : rdR X.K E W (mOp g ma mb) σ H Q) : tOp (rdO X.K E g) (rdR X.K E W ma.bor) (rdR X.K E W mb.bor) σ H Q := by
  obtain ⟨st, φ, I, R, p⟩ := h
  refine ⟨st, φ, I, R, (Po.bind p).imp fun x H1 st1 φ1 I1 S1 R1 p1 v hv _ => ?_⟩
  refine ⟨st1, φ1, I1, R1, (Po.bind p1).imp fun y H2 st2 φ2 I2 S2 R2 p2 w hw _ => ?_⟩
  obtain ⟨x', y', r, ex, ey, e, p3⟩ := Po.at2 p2
  refine ⟨σ, st2, φ2, I2, x', y', r, R2, hv.seen S2 R2 ex, hw.seen Stp.refl R2 ey, e, fun u H' I' S' R' hr hn => ?_⟩
  have S12 := S1.trans S2
  exact p3 H' φ2 I' S' R' u hr (Nw.far S12.there hn)
theorem sr_op {op : Operator} (ho : OpS X E (binaryOp op) g) (ha : SR X E W a ma) (hb : SR X E W b mb) : SR X E W (.BinOp a op b pos) (mOp g ma mb) := PEi (pe_op ho (sr_bor ha) (sr_bor hb)) fun _ _ _ h => rd_op h
theorem sr_un {op : UnaryOp} (ho : UnR X (unaryOp op) (rdU X.K E gu)) (ha : SR X E W a ma) : SR X E W (.UnaryOp op a pos) (mUn gu ma) := PEi (pe_un ho (sr_bor ha)) fun σ H Q ⟨st, φ, I, R, p⟩ => by
  refine ⟨st, φ, I, R, (Po.bind p).imp fun x H1 st1 φ1 I1 S1 R1 p1 v hv _ => ?_⟩
  obtain ⟨x', r, ex, e, p3⟩ := Po.at1 p1
  exact ⟨σ, st1, φ1, I1, x', r, R1, hv.seen Stp.refl R1 ex, e, fun u H' I' S' R' hr hn => p3 H' φ1 I' S' R' u hr (Nw.far S1.there hn)⟩
theorem rd_cmp {σ : L2.St} {H : Hp} {Q : VK} {k : Bool → Hp → State → List Addr → Hp → Prop} {st : State} {φ : List Addr} {I : Hp} (R : Rp X.K E σ H st φ I) (p : Po X.K E W σ (mCmp gb ma mb st) H st φ I k)
    (hk : ∀ r H' st' φ' I', Rp X.K E σ H' st' φ' I' → k r H' st' φ' I' → Q (.bl r) H') : tOp (rdB X.K E gb) (rdR X.K E W ma.bor) (rdR X.K E W mb.bor) σ H Q := by
  refine ⟨st, φ, I, R, (Po.bind p).imp fun x H1 st1 φ1 I1 S1 R1 p1 v hv _ => ?_⟩
  refine ⟨st1, φ1, I1, R1, (Po.bind p1).imp fun y H2 st2 φ2 I2 S2 R2 p2 w hw _ => ?_⟩
  obtain ⟨x', y', r, ex, ey, e, p3⟩ := Po.at2 p2
  exact ⟨σ, st2, φ2, I2, x', y', r, R2, hv.seen S2 R2 ex, hw.seen Stp.refl R2 ey, e, hk r H2 st2 φ2 I2 R2 (p3 H2 φ2 I2 Stp.refl R2)⟩
theorem sr_cmp {op : CmpOp} (ho : OpB X E (compareOp op) gb) (ha : SR X E W a ma) (hb : SR X E W b mb) (hm : behindInMarks op b = false) : SR X E W (.Compare a [op] [b] pos) (mBl (mCmp gb ma mb)) := PEi (pe_cmpR ho (sr_bor ha) (sr_bor hb) hm) fun σ H Q ⟨st, φ, I, R, p⟩ =>
  rd_cmp R (Po.bind p) fun r H' st' φ' I' R' h => h.pure R' _ (.bl r) Nw.sh
theorem st_cmp {op : CmpOp} (ho : OpB X E (compareOp op) gb) (ha : SR X E W a ma) (hb : SR X E W b mb) (hm : behindInMarks op b = false) : ST X E W (.Compare a [op] [b] pos) (mCmp gb ma mb) := PTi (pt_cmpR ho (sr_bor ha) (sr_bor hb) hm) fun σ H Q ⟨st, φ, I, R, p⟩ =>
  rd_cmp R p fun r H' st' φ' I' _ h => ⟨r, rfl, h⟩
/-! ### and, or, not, if -/
variable {ta tb : M Bool} {rest : List Expr}
theorem rd_if {α : Type} {σ : L2.St} {H : Hp} {st : State} {φ : List Addr} {I : Hp} {k : α → Hp → State → List Addr → Hp → Prop} {x y : M α} (R : Rp X.K E σ H st φ I) (p : Po X.K E W σ (mIf ta x y st) H st φ I k) (Q : Bool → Hp → Prop)
    (h : ∀ b H1 st1 φ1 I1, Rp X.K E σ H1 st1 φ1 I1 → Stp σ H st φ I H1 st1 φ1 I1 → Po X.K E W σ ((if b = true then x else y) st1) H1 st1 φ1 I1 k → Q b H1) : rdT X.K E W ta σ H Q :=
  ⟨st, φ, I, R, (Po.bind p).imp fun b H1 st1 φ1 I1 S1 R1 p1 => h b H1 st1 φ1 I1 R1 S1 p1⟩
theorem sw_and1 (ha : ST X E W a ta) : SW X E W (.BoolOp .And [a] pos) ta := pw_and1 ha
theorem sw_or1 (ha : ST X E W a ta) : SW X E W (.BoolOp .Or [a] pos) ta := pw_or1 ha
theorem sw_and (ha : ST X E W a ta) (hb : SW X E W (.BoolOp .And (b :: rest) pos) tb) : SW X E W (.BoolOp .And (a :: b :: rest) pos) (mAnd ta tb) := PWi (pw_and ha hb) fun σ H Q ⟨st, φ, I, R, p⟩ => by
  refine rd_if R p _ fun c H1 st1 φ1 I1 R1 S1 p1 => ?_
  cases c with
  | true => exact ⟨st1, φ1, I1, R1, p1⟩
  | false => exact p1.pure R1
theorem sw_or (ha : ST X E W a ta) (hb : SW X E W (.BoolOp .Or (b :: rest) pos) tb) : SW X E W (.BoolOp .Or (a :: b :: rest) pos) (mOr ta tb) := PWi (pw_or ha hb) fun σ H Q ⟨st, φ, I, R, p⟩ => by
  refine rd_if R p _ fun c H1 st1 φ1 I1 R1 S1 p1 => ?_
  cases c with
  | true => exact p1.pure R1
  | false => exact ⟨st1, φ1, I1, R1, p1⟩
theorem st_not (ha : ST X E W a ta) : ST X E W (.UnaryOp .Not a pos) (mNot ta) := PTi (pt_not ha) fun σ H Q ⟨st, φ, I, R, p⟩ =>
  ⟨st, φ, I, R, (Po.bind p).imp fun c H1 st1 φ1 I1 S1 R1 p1 => p1.pure R1⟩
theorem sr_if (hc : ST X E W c ta) (ha : SR X E W a ma) (hb : SR X E W b mb) : SR X E W (.IfExp c a b pos) (mIf ta ma mb) := PEi (pe_ifExp hc ha hb) fun σ H Q ⟨st, φ, I, R, p⟩ => by
  refine rd_if R p _ fun k H1 st1 φ1 I1 R1 S1 p1 => ?_
  cases k with
  | true => exact ⟨st1, φ1, I1, R1, p1.imp fun r H2 st2 φ2 I2 S2 R2 q v hr hn => q v hr (hn.back S1)⟩
  | false => exact ⟨st1, φ1, I1, R1, p1.imp fun r H2 st2 φ2 I2 S2 R2 q v hr hn => q v hr (hn.back S1)⟩
/-- a bool's value: and, or, not -/
theorem asBl {σ : L2.St} {H : Hp} {Q : VK} (h : rdR X.K E W (mBl ta) σ H Q) : rdT X.K E W ta σ H fun b H1 => Q (.bl b) H1 := by
  obtain ⟨st, φ, I, R, p⟩ := h
  exact ⟨st, φ, I, R, (Po.bind p).imp fun b H1 st1 φ1 I1 S1 R1 p1 => p1.pure R1 _ (.bl b) Nw.sh⟩
/-- an expression whose runs give bools -/
abbrev SB (X : Cx) (E : Ent) (W : WX) (e : Expr) (m : M Bool) : Prop := SR X E W e (mBl m)
theorem sb_one {op} (h : SB X E W a ta) : SB X E W (.BoolOp op [a] pos) ta := pe_one h
theorem ofBl {σ : L2.St} {H : Hp} {Q : VK} (h : rdT X.K E W ta σ H fun b H1 => Q (.bl b) H1) : rdR X.K E W (mBl ta) σ H Q := by
  obtain ⟨st, φ, I, R, p⟩ := h
  refine ⟨st, φ, I, R, ?_⟩
  show Po X.K E W σ (M.bind ta (fun b => M.pure (RV.sh (.bl b))) st) H st φ I _
  unfold M.bind
  cases e : ta st with
  | ok b st1 =>
    rw [e] at p
    intro H1 φ1 I1 S1 R1 v hv _
    have e2 : v = .bl b := by cases hv; rfl
    subst e2
    exact p H1 φ1 I1 S1 R1
  | exc c st1 => rw [e] at p; exact p
  | stuck => rw [e] at p; exact p
theorem rdTi {σ : L2.St} {H : Hp} {Q Q' : Bool → Hp → Prop} (h : rdT X.K E W ta σ H Q) (k : ∀ b H, Q b H → Q' b H) : rdT X.K E W ta σ H Q' := by
  obtain ⟨st, φ, I, R, p⟩ := h
  exact ⟨st, φ, I, R, p.imp fun b H1 _ _ _ _ _ q => k b H1 q⟩
theorem sb_and (ha : SB X E W a ta) (hb : SB X E W (.BoolOp .And (b :: rest) pos) tb) : SB X E W (.BoolOp .And (a :: b :: rest) pos) (mAnd ta tb) := PEi (pe_and ha hb) fun σ H Q h => by
  obtain ⟨st, φ, I, R, p⟩ := asBl h
  refine ofBl (rdTi (rd_if R p _ fun c H1 st1 φ1 I1 R1 S1 p1 => ?_) fun b H q => ⟨b, rfl, q⟩)
  cases c with
  | true => exact ofBl ⟨st1, φ1, I1, R1, p1⟩
  | false => exact p1.pure R1
theorem sb_not (ha : SB X E W a ta) : SB X E W (.UnaryOp .Not a pos) (mNot ta) := PEi (pe_not ha) fun σ H Q h => by
  obtain ⟨st, φ, I, R, p⟩ := asBl h
  exact ofBl ⟨st, φ, I, R, (Po.bind p).imp fun b H1 st1 φ1 I1 S1 R1 p1 => ⟨b, rfl, p1.pure R1⟩⟩
/-- .. of a run whose value must be a bool -/
def asB : D → Option Bool
  | .bl b => some b
  | _ => none
def mB (m : M RV) : M Bool := m.bind fun r => match r with
  | .sh d => M.ofO (asB d)
  | _ => M.stuck
theorem rd_B {σ : L2.St} {H : Hp} {Q : Bool → Hp → Prop} (h : rdT X.K E W (mB ma) σ H Q) : rdR X.K E W ma σ H fun x H1 => ∃ c, x = .bl c ∧ Q c H1 := by
  obtain ⟨st, φ, I, R, p⟩ := h
  refine ⟨st, φ, I, R, (Po.bind p).imp fun r H1 st1 φ1 I1 S1 R1 p1 v hv _ => ?_⟩
  cases r with
  | ow c => exact p1.elim
  | lo i => exact p1.elim
  | sh d =>
    obtain ⟨b, e, p2⟩ := Po.ofO p1
    cases d <;> simp only [asB, Option.some.injEq, reduceCtorEq] at e
    subst e
    cases hv
    exact ⟨_, rfl, p2 H1 φ1 I1 Stp.refl R1⟩
theorem sb_B (h : SR X E W a ma) : SB X E W a (mB ma) := PEi h fun σ H Q h => by
  have h1 := rd_B (asBl h)
  obtain ⟨st, φ, I, R, p⟩ := h1
  refine ⟨st, φ, I, R, p.imp fun r H1 st1 φ1 I1 S1 R1 q v hv hn => ?_⟩
  obtain ⟨c, rfl, q⟩ := q v hv hn
  exact q
theorem st_B (h : SR X E W a ma) (he : ∀ whole, isTrue a X.env whole = (do let v ← whole; standAt a.pos; holding [v] (truthy v)) := by intro _; rfl) : ST X E W a (mB ma) := PTi (pt_val h he) fun σ H Q h => rd_B h
/-! ### arguments, displays -/
variable {es : List Expr} {mr : M (List D)}
theorem sa_nil : SA X E W [] mNil := PAi pa_nil fun σ H Q ⟨st, φ, I, R, p⟩ => p.pure R _ .nil
theorem sa_cons (ha : SR X E W a ma) (hr : SA X E W es mr) (hs : starEach (a :: es) X.env = (false, eval a X.env) :: starEach es X.env := by rfl) : SA X E W (a :: es) (mCons ma mr) := PAi (pa_cons (se_frz ha) hr hs) fun σ H Q ⟨st, φ, I, R, p⟩ => by
  refine ⟨st, φ, I, R, (Po.bind p).imp fun x H1 st1 φ1 I1 S1 R1 p1 v hv => ?_⟩
  refine ⟨st1, φ1, I1, R1, (Po.bind p1).imp fun y H2 st2 φ2 I2 S2 R2 p2 w hw => ?_⟩
  exact p2.pure R2 _ (.cons (hv.mono S2.pf S2.ii) hw)
theorem sr_tup {k} (h : SA X E W es mr) : SR X E W (.Tuple es k pos) (mTup mr) := PEi (pe_tup h) fun σ H Q ⟨st, φ, I, R, p⟩ => by
  refine ⟨st, φ, I, R, (Po.bind p).imp fun xs H1 st1 φ1 I1 S1 R1 p1 vs hv => ?_⟩
  obtain ⟨hz, p2⟩ := Po.small p1
  refine ⟨by rw [← hv.len]; exact Nat.le_trans hz lim_le, fun q hq => ?_⟩
  obtain ⟨R2, S2⟩ := R1.laidS hq (.tup vs)
  exact p2 _ φ1 _ S2 R2 _ (.tup upd_same (hv.mono S2.pf S2.ii)) Nw.sh
theorem sr_lst (h : SA X E W es mr) : SR X E W (.List es pos) (mLst mr) := PEi (pe_lst h) fun σ H Q ⟨st, φ, I, R, p⟩ => by
  refine ⟨st, φ, I, R, (Po.bind p).imp fun xs H1 st1 φ1 I1 S1 R1 p1 vs hv => ?_⟩
  obtain ⟨hz, p2⟩ := Po.small p1
  refine ⟨by rw [← hv.len]; exact Nat.le_trans hz lim_le, fun q hq => ?_⟩
  obtain ⟨R2, S2⟩ := R1.laidO hq (.lst vs)
  obtain ⟨h0, hφ, hI, ho⟩ := R1.fresh hq
  exact p2 _ φ1 _ S2 R2 _ ⟨q, rfl, ⟨_, upd_same, hI, .ls hv⟩, hφ, h0, ho⟩ (Nw.far S1.there fun a c _ e => by cases e; exact hq)
end
end PM
set_option Elab.async false
set_option linter.all false
set_option maxRecDepth 100000
set_option maxHeartbeats 1200000
namespace PM
open PySem PySem.Spec L2
theorem Grow.refl {φ : List Addr} {I : Hp} : Grow φ I φ I := ⟨List.prefix_rfl, Ex.refl _⟩
theorem Grow.trans {φ p1 p2 : List Addr} {I I1 I2 : Hp} (a : Grow φ I p1 I1) (b : Grow p1 I1 p2 I2) : Grow φ I p2 I2 := ⟨a.pf.trans b.pf, a.ii.trans b.ii⟩
theorem Stp.grow {σ : L2.St} {H H' : Hp} {st st' : State} {φ φ' : List Addr} {I I' : Hp} (S : Stp σ H st φ I H' st' φ' I') : Grow φ I φ' I' := ⟨S.pf, S.ii⟩
/-! ### runs of statements -/
def mNx : MS := .nx
def mSeq (a b : MS) : MS := fun st => match a st with
  | .nx st' => b st'
  | o => o
def M.then {α : Type} (m : M α) (f : α → MS) : MS := fun st => match m st with
  | .ok a st' => f a st'
  | .exc c st' => .exc c st'
  | .stuck => .stuck
def mDrop (m : M RV) : MS := m.then fun _ => .nx
/-- a value, the frame's own shared -/
def M.fix (m : M RV) : M RV := m.bind fun r => match r with
  | .lo i => (mVar i).bind fun d => M.pure (.sh d)
  | r => M.pure r
def mSet (i : Nat) (m : M RV) : MS := m.fix.then fun r st => .nx { st with env := st.env.set i r.slot }
def mRet (m : M RV) : MS := m.fix.then fun r st => .rt r st
/-- the frame's own thing is handed out -/
def mRetV (i : Nat) : MS := fun st => match st.env[i]? with
  | some (.sh d) => .rt (.sh d) st
  | some (.ow c) => .rt (.ow c) { st with env := st.env.set i .un }
  | _ => .stuck
def mRetN : MS := fun st => .rt (.sh .non) st
def mIfS (c : M Bool) (a b : MS) : MS := c.then fun k => if k then a else b
def mBrk : MS := .bk
def mCnt : MS := .ct
def mStk : MS := fun _ => .stuck
def mWhileN : Nat → M Bool → MS → MS
  | 0, _, _ => fun _ => .stuck
  | n + 1, c, b => c.then fun k => if k then fun st => match b st with
      | .nx st' => mWhileN n c b st'
      | .ct st' => mWhileN n c b st'
      | .bk st' => .nx st'
      | o => o
    else .nx
def mWhile (f : State → Nat) (c : M Bool) (b : MS) : MS := fun st => mWhileN (f st) c b st
def mForL (g : D → State → Option State) (b : MS) : List D → MS
  | [] => .nx
  | d :: ds => fun st => match g d st with
    | some st1 => match b st1 with
      | .nx st' => mForL g b ds st'
      | .ct st' => mForL g b ds st'
      | .bk st' => .nx st'
      | o => o
    | none => .stuck
def mFor (it : M (List D)) (g : D → State → Option State) (b : MS) : MS := it.then fun ds => mForL g b ds
/-- targets -/
def gN (i : Nat) : D → State → Option State := fun d st => some { st with env := st.env.set i (.sh d) }
def gsNil : List D → State → Option State := fun ds st => match ds with
  | [] => some st
  | _ => none
def gsCons (g : D → State → Option State) (r : List D → State → Option State) : List D → State → Option State := fun ds st => match ds with
  | d :: ds => (g d st).bind (r ds)
  | [] => none
def gT (n : Nat) (r : List D → State → Option State) : D → State → Option State := fun d st => match d with
  | .tup ds => if ds.length = n then r ds st else none
  | .tpF ds => if ds.length = n then r ds st else none
  | _ => none
section
variable {K : PySem.W.Frag} {E : Ent} {W : WX} {σ : L2.St} {H : Hp} {st : State} {φ : List Addr} {I : Hp} {α β : Type} {D : Ends}
theorem Ps.grow {φ0 : List Addr} {I0 : Hp} {o : SOut} (g : Grow φ0 I0 φ I) (h : Ps K E W φ0 I0 D o) : Ps K E W φ I D o := by
  cases o with
  | nx st => exact fun a b c d e => h a b c d (g.trans e)
  | bk st => exact fun a b c d e => h a b c d (g.trans e)
  | ct st => exact fun a b c d e => h a b c d (g.trans e)
  | rt r st => exact fun x a b c d e => h x a b c d (g.trans e)
  | exc r st => exact fun x a b c d e => h x a b c d (g.trans e)
  | stuck => exact h
theorem Ps.then {m : M α} {f : α → MS} (h : Ps K E W φ I D (m.then f st)) : Po K E W σ (m st) H st φ I fun a H1 st1 φ1 I1 => Ps K E W φ1 I1 D (f a st1) := by
  unfold M.then at h
  cases e : m st with
  | ok a st1 =>
    rw [e] at h
    exact fun H1 φ1 I1 S1 R1 => Ps.grow S1.grow h
  | exc c st1 =>
    rw [e] at h
    exact fun d H' φ' I' S R x => h d σ H' φ' I' S.grow R x
  | stuck => rw [e] at h; exact h
end
section
variable {X : Cx} {E : Ent} {W : WX} {pos : Pos} {s : Stmt} {rest : List Stmt} {a b : MS} {e c : Expr} {m : M RV} {tc : M Bool}
theorem ss_nil : SSs X E W [] mNx := PSsi pss_nil fun D σ H ⟨st, φ, I, R, p⟩ => p σ H φ I Grow.refl R
theorem ss_cons (ha : SS X E W s a) (hb : SSs X E W rest b) : SSs X E W (s :: rest) (mSeq a b) := PSsi (pss_cons ha hb) fun D σ H ⟨st, φ, I, R, p⟩ => by
  refine ⟨st, φ, I, R, ?_⟩
  unfold mSeq at p
  cases e : a st with
  | nx st' =>
    rw [e] at p
    exact fun σ' H' φ' I' g R' => ⟨st', φ', I', R', Ps.grow g p⟩
  | rt r st' => rw [e] at p; exact p
  | bk st' => rw [e] at p; exact p
  | ct st' => rw [e] at p; exact p
  | exc r st' => rw [e] at p; exact p
  | stuck => rw [e] at p; exact p
theorem ss_one (ha : SS X E W s a) : SSs X E W [s] a := pss_one ha
theorem ss_expr (h : SR X E W e m) (hs : swapsWith e none pos.line X.env = pure false := by rfl) : SS X E W (.Expr e pos) (mDrop m) := PSi (ps_expr h hs) fun D σ H ⟨st, φ, I, R, p⟩ =>
  ⟨st, φ, I, R, (Ps.then p).imp fun r H1 st1 φ1 I1 S1 R1 q v _ _ => q σ H1 φ1 I1 Grow.refl R1⟩
/-- a value to be kept -/
theorem sr_fix (h : SR X E W e m) : SR X E W e m.fix := PEi (pe_gh h) fun σ H Q ⟨st, φ, I, R, p⟩ => by
  refine ⟨st, φ, I, R, ?_⟩
  unfold M.fix M.bind at p
  cases e : m st with
  | ok r st1 =>
    rw [e] at p
    intro H1 φ1 I1 S1 R1 v hr hn
    cases r with
    | sh d => exact .inl (p H1 φ1 I1 S1 R1 v hr hn)
    | ow c => exact .inl (p H1 φ1 I1 S1 R1 v hr hn)
    | lo i =>
      have p' : Po X.K E W σ (mVar i st1) H1 st1 φ1 I1 fun d H' st' φ' I' => ∀ v, Rv X.K φ' I' d v → Q v H' := by
        simp only at p
        cases e2 : mVar i st1 with
        | ok d st2 =>
          rw [e2] at p
          exact fun H2 φ2 I2 S2 R2 v hv => p H2 φ2 I2 (S1.trans S2) R2 v hv Nw.sh
        | exc c st2 =>
          rw [e2] at p
          exact fun d H2 φ2 I2 S2 R2 => p d H2 φ2 I2 (S1.trans S2) R2
        | stuck => rw [e2] at p; exact p
      obtain ⟨v', h1, g⟩ := R1.var p'
      have hr' : σ[i]? = some (some v) := hr
      rw [hr'] at h1
      cases h1
      exact g fun d H' st' I' S' R' hv q => q v hv
  | exc c st1 => rw [e] at p; exact p
  | stuck => rw [e] at p; exact p
theorem ss_set (i : Nat) {x : Str} {pos' : Pos} (hN : X.N.Nodup) (h : SR X E W e m) (hi : X.N[i]? = some x := by rfl) (hx : Loc X.env.scope x := by first | exact Or.inl rfl | exact Or.inr rfl) (hs : swapsWith e (some (.Name x pos')) pos.line X.env = pure false := by rfl)
    (hf : X.fn x = true ∨ X.env.scope.names.lookup x = some .local := by first | exact .inl rfl | exact .inr rfl | assumption) : SS X E W (.Assign [.Name x pos'] e pos) (mSet i m) := PSi (ps_set hN hi hx (sr_fix h) hs hf) fun D σ H ⟨st, φ, I, R, p⟩ =>
  ⟨st, φ, I, R, (Ps.then p).imp fun r H1 st1 φ1 I1 S1 R1 q v hv _ => q _ H1 φ1 I1 Grow.refl (R1.setR hv)⟩
theorem ss_ret (h : SR X E W e m) : SS X E W (.Return (some e) pos) (mRet m) := PSi (ps_ret (sr_fix h)) fun D σ H ⟨st, φ, I, R, p⟩ =>
  ⟨st, φ, I, R, (Ps.then p).imp fun r H1 st1 φ1 I1 S1 R1 q v hv _ => q v σ H1 φ1 I1 Grow.refl R1 hv⟩
theorem ss_if {x y : List Stmt} (hc : ST X E W c tc) (ha : SSs X E W x a) (hb : SSs X E W y b) : SS X E W (.If c x y pos) (mIfS tc a b) := PSi (ps_if hc ha hb) fun D σ H ⟨st, φ, I, R, p⟩ => by
  refine ⟨st, φ, I, R, (Ps.then p).imp fun k H1 st1 φ1 I1 S1 R1 q => ?_⟩
  cases k with
  | true => exact ⟨st1, φ1, I1, R1, q⟩
  | false => exact ⟨st1, φ1, I1, R1, q⟩
theorem ss_while (f : State → Nat) {x : List Stmt} (hp : PassesOwn (model X.prog X.w) X.A X.env X.xe) (hc : ST X E W c tc) (ha : SSs X E W x a) : SS X E W (.While c x [] pos) (mWhile f tc a) := PSi (ps_while hp hc ha) fun D σ H ⟨st, φ, I, R, p⟩ => by
  refine ⟨fun n σ H => ∃ st φ I, Rp X.K E σ H st φ I ∧ Ps X.K E W φ I D (mWhileN n tc a st), ⟨_, st, φ, I, R, p⟩, ?_⟩
  rintro n σ H ⟨st, φ, I, R, p⟩
  cases n with
  | zero => exact p.elim
  | succ n =>
    refine ⟨st, φ, I, R, (Ps.then p).imp fun k H1 st1 φ1 I1 S1 R1 q => ?_⟩
    cases k with
    | false => exact q σ H1 φ1 I1 Grow.refl R1
    | true =>
      refine ⟨fun σ H => ∃ st φ I, Rp X.K E σ H st φ I ∧ Ps X.K E W φ I D (mWhileN n tc a st), fun σ' H' h => ⟨n, Nat.lt_succ_self n, h⟩, st1, φ1, I1, R1, ?_⟩
      replace q : Ps X.K E W φ1 I1 D (match a st1 with
        | .nx st' => mWhileN n tc a st'
        | .ct st' => mWhileN n tc a st'
        | .bk st' => .nx st'
        | o => o) := q
      cases e : a st1 with
      | nx st2 => rw [e] at q; exact fun σ2 H2 φ2 I2 g R2 => ⟨st2, φ2, I2, R2, Ps.grow g q⟩
      | ct st2 => rw [e] at q; exact fun σ2 H2 φ2 I2 g R2 => ⟨st2, φ2, I2, R2, Ps.grow g q⟩
      | bk st2 => rw [e] at q; exact q
      | rt r st2 => rw [e] at q; exact q
      | exc r st2 => rw [e] at q; exact q
      | stuck => rw [e] at q; exact q
/-! ### targets -/
/-- slots other than ts are as they were -/
structure Off (ts : List Nat) (σ σ' : L2.St) (st st' : State) : Prop where
  same : ∀ i, i ∉ ts → σ'[i]? = σ[i]?
  len : σ'.length = σ.length
  ow : ∀ j a, Owns st'.env σ' j a → Owns st.env σ j a
  env : ∀ i, i ∉ ts → st'.env[i]? = st.env[i]?
  store : st'.store = st.store
theorem Off.refl {ts : List Nat} {σ : L2.St} {st : State} : Off ts σ σ st st := ⟨fun _ _ => rfl, rfl, fun _ _ h => h, fun _ _ => rfl, rfl⟩
theorem Off.trans {ts us : List Nat} {σ σ1 σ2 : L2.St} {st st1 st2 : State} (a : Off ts σ σ1 st st1) (b : Off us σ1 σ2 st1 st2) : Off (ts ++ us) σ σ2 st st2 :=
  ⟨fun i h => (b.same i fun z => h (List.mem_append_right _ z)).trans (a.same i fun z => h (List.mem_append_left _ z)), b.len.trans a.len, fun j x h => a.ow j x (b.ow j x h), fun i h => (b.env i fun z => h (List.mem_append_right _ z)).trans (a.env i fun z => h (List.mem_append_left _ z)), b.store.trans a.store⟩
def rdG (K : PySem.W.Frag) (E : Ent) (ts : List Nat) (g : D → State → Option State) : TG := fun v σ H Q => ∃ st φ I d st', Rp K E σ H st φ I ∧ Rv K φ I d v ∧ g d st = some st' ∧ ∀ σ', Off ts σ σ' st st' → Rp K E σ' H st' φ I → Q σ' H
def rdGs (K : PySem.W.Frag) (E : Ent) (ts : List Nat) (g : List D → State → Option State) : TGs := fun vs σ H Q => ∃ st φ I ds st', Rp K E σ H st φ I ∧ Rvs K φ I ds vs ∧ g ds st = some st' ∧ ∀ σ', Off ts σ σ' st st' → Rp K E σ' H st' φ I → Q σ' H
theorem PGi {e : Expr} {t t' : TG} (h : PG X e t) (k : ∀ v σ H Q, t' v σ H Q → t v σ H Q) : PG X e t' := ⟨fun p s σ H v u Q I r q => h.run p s σ H v u Q I r (k _ _ _ _ q)⟩
theorem PGsi {e : List Expr} {t t' : TGs} (h : PGs X e t) (k : ∀ v σ H Q, t' v σ H Q → t v σ H Q) : PGs X e t' := ⟨fun p s σ H v u Q I r q => h.run p s σ H v u Q I r (k _ _ _ _ q)⟩
abbrev SG (X : Cx) (E : Ent) (e : Expr) (ts : List Nat) (g : D → State → Option State) : Prop := PG X e (rdG X.K E ts g)
abbrev SGs (X : Cx) (E : Ent) (e : List Expr) (ts : List Nat) (g : List D → State → Option State) : Prop := PGs X e (rdGs X.K E ts g)
variable {g : D → State → Option State} {gr : List D → State → Option State} {es : List Expr} {ts us : List Nat}
theorem sg_n (i : Nat) {x : Str} (hN : X.N.Nodup) (hi : X.N[i]? = some x := by rfl) (hx : Loc X.env.scope x := by first | exact Or.inl rfl | exact Or.inr rfl) (hf : X.fn x = true ∨ X.env.scope.names.lookup x = some .local := by first | exact .inl rfl | exact .inr rfl | assumption) :
    SG X E (.Name x pos) [i] (gN i) := PGi (pg_name hN hi hx hf) fun v σ H Q ⟨st, φ, I, d, st', R, hv, e, q⟩ => by
  cases e
  refine q _ ⟨fun j hj => ?_, List.length_set .., ?_, fun j hj => ?_, rfl⟩ (R.setR (r := .sh d) hv)
  · exact List.getElem?_set_ne (fun z => hj (by simp [z]))
  · rintro j a ⟨c, q1, q2⟩
    have hj : i ≠ j := by
      rintro rfl
      have hi : i < st.env.length := by
        have := (List.getElem?_eq_some_iff.mp q1).1
        rwa [List.length_set] at this
      rw [List.getElem?_set_self hi] at q1
      cases q1
    rw [List.getElem?_set_ne hj] at q1 q2
    exact ⟨c, q1, q2⟩
  · exact List.getElem?_set_ne (fun z => hj (by simp [z]))
theorem sgs_nil : SGs X E [] [] gsNil := PGsi pgs_nil fun vs σ H Q ⟨st, φ, I, ds, st', R, hv, e, q⟩ => by
  cases ds with
  | cons _ _ => cases e
  | nil =>
    cases e
    cases hv
    exact ⟨rfl, q σ Off.refl R⟩
theorem sgs_cons (h1 : SG X E e ts g) (h2 : SGs X E es us gr) (hs : (assignEach (e :: es) X.env).map (·.2) = assign e X.env :: (assignEach es X.env).map (·.2) := by rfl) : SGs X E (e :: es) (ts ++ us) (gsCons g gr) := PGsi (pgs_cons h1 h2 hs) fun vs σ H Q ⟨st, φ, I, ds, st', R, hv, e, q⟩ => by
  cases ds with
  | nil => cases e
  | cons d ds =>
    cases hv with
    | cons hv hvs =>
      obtain ⟨st1, e1, e2⟩ := Option.bind_eq_some_iff.mp (show (g d st).bind (gr ds) = some st' from e)
      refine ⟨_, _, rfl, st, φ, I, d, st1, R, hv, e1, fun σ1 o1 R1 => ?_⟩
      exact ⟨st1, φ, I, ds, st', R1, hvs, e2, fun σ2 o2 R2 => q σ2 (o1.trans o2) R2⟩
theorem sg_tup {k : Nat} {n : Nat} (hc : X.calm = true) (h : SGs X E es ts gr) (hn : (assignEach es X.env).length = n := by rfl) (hst : (assignEach es X.env).findIdx? (·.1) = none := by rfl) : SG X E (.Tuple es k pos) ts (gT n gr) := PGi (pg_tup hc h hn hst) fun v σ H Q ⟨st, φ, I, d, st', R, hv, e, q⟩ => by
  unfold gT at e
  cases d <;> simp only [reduceCtorEq] at e
  · rename_i ds
    by_cases hl : ds.length = n
    · rw [if_pos hl] at e
      cases hv with
      | tup hs hr => exact ⟨_, _, rfl, .inl (.inl (R.ext _ _ hs)), hr.len.symm.trans hl, st, φ, I, ds, st', R, hr, e, q⟩
    · rw [if_neg hl] at e
      cases e
  · rename_i ds
    by_cases hl : ds.length = n
    · rw [if_pos hl] at e
      cases hv with
      | tpF hs hr => exact ⟨_, _, rfl, sqT_mono R.ext hs, hr.len.symm.trans hl, st, φ, I, ds, st', R, hr, e, q⟩
    · rw [if_neg hl] at e
      cases e
/-- a target gets an expression's value -/
def mAsg (g : D → State → Option State) (m : M RV) : MS := m.frz.then fun d st => match g d st with
  | some st' => .nx st'
  | none => .stuck
/-! ### for -/
/-- the iterator J gives these items, one a turn, from now on -/
def Walk (K : PySem.W.Frag) (E : Ent) (J : It) (ds : List D) (φ0 : List Addr) (I0 : Hp) : Prop := ∀ σ H st φ I, Rp K E σ H st φ I → Grow φ0 I0 φ I → ∀ i : Nat,
  (∀ d, ds[i]? = some d → J.go i H ∧ ∀ x H', J.yld i H x H' → ∃ I', Rp K E σ H' st φ I' ∧ Stp σ H st φ I H' st φ I' ∧ Rv K φ I' d x) ∧ (ds.length ≤ i → J.stop i H)
def rdI (K : PySem.W.Frag) (E : Ent) (W : WX) (m : M (List D)) : TI := fun σ H R => ∃ st φ I, Rp K E σ H st φ I ∧ Po K E W σ (m st) H st φ I fun ds H' st' φ' I' => ∀ J, Walk K E J ds φ' I' → R J H'
abbrev SI (X : Cx) (E : Ent) (W : WX) (tg iter : Expr) (m : M (List D)) : Prop := PI X tg iter (rdI X.K E W m)
theorem PIi {tg e : Expr} {t t' : TI} (h : PI X tg e t) (k : ∀ σ H R, t' σ H R → t σ H R) : PI X tg e t' := ⟨fun p s σ H Q I q => h.run p s σ H Q I (k _ _ _ q)⟩
theorem ss_for {tg iter : Expr} {mi : M (List D)} {x : List Stmt} (hp : PassesOwn (model X.prog X.w) X.A X.env X.xe) (hc : X.calm = true) (hi : SI X E W tg iter mi) (hg : SG X E tg ts g) (hb : SSs X E W x a)
    (hs : ∀ x, foldedSetIterable iter X.env x = pure x := by intro _; rfl) : SS X E W (.For tg iter x [] pos) (mFor mi g a) := PSi (ps_for hp hc hi hg hb hs) fun D σ H ⟨st, φ, I, R, p⟩ => by
  refine ⟨st, φ, I, R, (Ps.then p).imp fun ds H1 st1 φ1 I1 S1 R1 q J hJ => ?_⟩
  refine ⟨fun i m σ H => m + i = ds.length ∧ ∃ st φ I, Rp X.K E σ H st φ I ∧ Grow φ1 I1 φ I ∧ Ps X.K E W φ I D (mForL g a (ds.drop i) st), ⟨ds.length, rfl, st1, φ1, I1, R1, Grow.refl, q⟩, ?_⟩
  rintro i m σ2 H2 ⟨hm, st2, φ2, I2, R2, g2, p2⟩
  obtain ⟨h1, h2⟩ := hJ σ2 H2 st2 φ2 I2 R2 g2 i
  by_cases hi : i < ds.length
  · refine .inr ?_
    have hd : ds.drop i = ds[i] :: ds.drop (i + 1) := List.drop_eq_getElem_cons hi
    rw [hd] at p2
    obtain ⟨go, yld⟩ := h1 ds[i] (List.getElem?_eq_getElem hi)
    refine ⟨go, fun σ H => ∃ st φ I, Rp X.K E σ H st φ I ∧ Grow φ1 I1 φ I ∧ Ps X.K E W φ I D (mForL g a (ds.drop (i + 1)) st), fun σ' H' h => ⟨m - 1, by omega, by omega, h⟩, fun v H' hy => ?_⟩
    obtain ⟨I3, R3, S3, hv⟩ := yld v H' hy
    have g3 := S3.grow
    replace p2 : Ps X.K E W φ2 I2 D (match g ds[i] st2 with
      | some st1 => match a st1 with
        | .nx st' => mForL g a (ds.drop (i + 1)) st'
        | .ct st' => mForL g a (ds.drop (i + 1)) st'
        | .bk st' => .nx st'
        | o => o
      | none => .stuck) := p2
    cases e : g ds[i] st2 with
    | none => rw [e] at p2; exact p2.elim
    | some st4 =>
      rw [e] at p2
      refine ⟨st2, φ2, I3, ds[i], st4, R3, hv, e, fun σ4 _ R4 => ⟨st4, φ2, I3, R4, ?_⟩⟩
      have g24 := g3
      replace p2 := Ps.grow g24 p2
      simp only at p2
      cases e2 : a st4 with
      | nx st5 => rw [e2] at p2; exact fun σ5 H5 φ5 I5 g5 R5 => ⟨st5, φ5, I5, R5, g2.trans (g24.trans g5), Ps.grow g5 p2⟩
      | ct st5 => rw [e2] at p2; exact fun σ5 H5 φ5 I5 g5 R5 => ⟨st5, φ5, I5, R5, g2.trans (g24.trans g5), Ps.grow g5 p2⟩
      | bk st5 => rw [e2] at p2; exact p2
      | rt r st5 => rw [e2] at p2; exact p2
      | exc r st5 => rw [e2] at p2; exact p2
      | stuck => rw [e2] at p2; exact p2
  · refine .inl ⟨h2 (by omega), ?_⟩
    rw [List.drop_eq_nil_of_le (by omega)] at p2
    exact p2 σ2 H2 φ2 I2 Grow.refl R2
end
end PM
set_option Elab.async false
set_option linter.all false
set_option maxRecDepth 100000
set_option maxHeartbeats 1200000
namespace PM
open PySem PySem.Spec L2
/-! ### a def as a function of its arguments and of the things -/
inductive FRes where
  | ret (r : RV) (store : List Cell) | exc (c : Exc) (store : List Cell) | stuck
abbrev Fn := List D → List Cell → FRes
def toF : SOut → FRes
  | .nx st => .ret (.sh .non) st.store
  | .rt (.sh d) st => .ret (.sh d) st.store
  | .rt (.ow c) st => .ret (.ow c) st.store
  | .exc c st => .exc c st.store
  | _ => .stuck
/-- the slots at the entry: the parameters, then as many more names -/
def entry (ds : List D) (n : Nat) : List Slot := ds.map .sh ++ List.replicate n .un
def runF (ms : MS) (n : Nat) : Fn := fun ds store => toF (ms ⟨entry ds n, store⟩)
structure Rq (K : PySem.W.Frag) (H : Hp) (store : List Cell) (φ : List Addr) (I : Hp) : Prop where
  ext : Ex I H
  nd : φ.Nodup
  len : φ.length = store.length
  cells : ∀ (i : Nat) c a, store[i]? = some c → φ[i]? = some a → c = .dead ∨ CellAt K φ I H a c
  pin : ∀ a ∈ φ, H a ≠ none
def st0 (store : List Cell) : State := ⟨[], store⟩
def Fq (K : PySem.W.Frag) (H : Hp) (φ : List Addr) (I : Hp) (Q : VK) (E : XK) : FRes → Prop
  | .ret r store' => ∀ v H' φ' I', Rp K (.at H φ I) [] H' (st0 store') φ' I' → Rr K (.at H φ I) [] H' (st0 store') φ' I' r v → Q v H'
  | .exc c store' => ∀ d H' φ' I', Rp K (.at H φ I) [] H' (st0 store') φ' I' → Rx K (.at H φ I) φ' I' H' c.fs d → E (c.cls.val K) d H'
  | .stuck => False
/-- the promise that a def is worth F -/
def spOf (K : PySem.W.Frag) (F : Fn) : Sp := fun vs H Q E => ∃ ds store φ I, Rq K H store φ I ∧ Rvs K φ I ds vs ∧ Fq K H φ I Q E (F ds store)
/-- at f a def may be called with m places and the keywords ks; it is worth F of the arguments in the call's order -/
def FnC (P : Program) (w : World) (K : PySem.W.Frag) (mg : Str → Option Value) (base : Heap) (k : Nat) (f : Addr) (m : Nat) (ks : List Str) (F : Fn) : Prop :=
  ∀ (A : Around) (outer : List Env) (s : Shared) (H : Hp) (us : List Value) (vs : List V) (Q : VK) (E : XK), Room k A → A.guards = some [] → Env0 P w K mg base A outer s H → Vals vs us → us.length = m + ks.length → spOf K F vs H Q E →
    codeAny (model P w) A (.call (.ref f) ⟨us.take m, ks.zip (us.drop m)⟩) (CR (L2.CX P w) outer P w H s Q E) s
section
variable {P : Program} {w : World} {K : PySem.W.Frag} {mg : Str → Option Value} {base : Heap} {k : Nat} {f : Addr} {m : Nat} {ks : List Str} {F G : Fn}
theorem FnC.mono {j : Nat} (h : FnC P w K mg base k f m ks F) (hj : k ≤ j) : FnC P w K mg base j f m ks F := fun A outer s H us vs Q E hr => h A outer s H us vs Q E (hr.mono hj)
/-- F may be told otherwise, where it is asked -/
theorem FnC.eq (h : FnC P w K mg base k f m ks F) (e : ∀ ds store, G ds store ≠ .stuck → F ds store = G ds store) : FnC P w K mg base k f m ks G := fun A outer s H us vs Q E hr hg he hv hl ⟨ds, store, φ, I, hq, hvs, hf⟩ => by
  refine h A outer s H us vs Q E hr hg he hv hl ⟨ds, store, φ, I, hq, hvs, ?_⟩
  rw [e ds store (fun z => by rw [z] at hf; exact hf)]
  exact hf
end
/-! ### the body -/
section
variable {K : PySem.W.Frag} {E : Ent} {W : WX} {σ : L2.St} {H : Hp} {st : State} {φ : List Addr} {I : Hp}
theorem Rp.forget (R : Rp K E σ H st φ I) : Rp K E [] H (st0 st.store) φ I :=
  ⟨R.ext, R.keep, R.there, R.inew, R.iold, R.pre, R.fl, R.pnew, R.nd, R.len, R.cells, R.pin, rfl, fun i d h => by simp [st0] at h, fun i c h => by simp [st0] at h, fun i j a h => by obtain ⟨c, h1, _⟩ := h; simp [st0] at h1⟩
theorem Rr.forget {r : RV} {v : V} (h : Rr K E σ H st φ I r v) (hl : ∀ i, r ≠ .lo i) : Rr K E [] H (st0 st.store) φ I r v := by
  cases r with
  | sh d => exact h
  | lo i => exact absurd rfl (hl i)
  | ow c =>
    obtain ⟨a, e, h1, h2, h3, _⟩ := h
    exact ⟨a, e, h1, h2, h3, fun i z => by obtain ⟨c, h1, _⟩ := z; simp [st0] at h1⟩
theorem entry_get {ds : List D} {n i : Nat} {d : D} (h : (entry ds n)[i]? = some (.sh d)) : ds[i]? = some d := by
  unfold entry at h
  by_cases hi : i < (ds.map Slot.sh).length
  · rw [List.getElem?_append_left hi, List.getElem?_map] at h
    cases e : ds[i]? with
    | none => rw [e] at h; cases h
    | some d' => rw [e] at h; cases h; rfl
  · rw [List.getElem?_append_right (by omega), List.getElem?_replicate] at h
    split at h <;> cases h
theorem entry_ow {ds : List D} {n i : Nat} {c : Cell} (h : (entry ds n)[i]? = some (.ow c)) : False := by
  unfold entry at h
  by_cases hi : i < (ds.map Slot.sh).length
  · rw [List.getElem?_append_left hi, List.getElem?_map] at h
    cases e : ds[i]? with
    | none => rw [e] at h; cases h
    | some d' => rw [e] at h; cases h
  · rw [List.getElem?_append_right (by omega), List.getElem?_replicate] at h
    split at h <;> cases h
/-- at the entry -/
theorem Rq.enter {store : List Cell} {N : List Str} {ds : List D} {vs : List V} (q : Rq K H store φ I) (h : Rvs K φ I ds vs) (hl : ds.length ≤ N.length) : Rp K (.at H φ I) (L2.start N vs) H ⟨entry ds (N.length - ds.length), store⟩ φ I := by
  refine ⟨q.ext, fun _ _ e _ => e, fun _ h => h, fun a h n => absurd n h, Ex.refl _, ⟨[], by simp⟩, ⟨List.prefix_rfl, Ex.refl _⟩, fun a h => .inl h, q.nd, q.len, q.cells, q.pin, ?_, fun i d e => ?_, fun i c e => (entry_ow e).elim, fun i j a z => ?_⟩
  · show (entry ds _).length = (L2.start N vs).length
    unfold entry L2.start
    simp only [List.length_append, List.length_map, List.length_replicate]
    rw [h.len]
  · have e1 := entry_get e
    obtain ⟨v, h1, h2⟩ := h.get e1
    have hi : i < vs.length := (List.getElem?_eq_some_iff.mp h1).1
    refine ⟨v, ?_, h2⟩
    unfold L2.start
    rw [List.getElem?_append_left (by simpa using hi), List.getElem?_map, h1]
    rfl
  · obtain ⟨c, h1, _⟩ := z
    exact (entry_ow h1).elim
end
section
variable {P : Program} {w : World} {K : PySem.W.Frag} {mg : Str → Option Value} {base : Heap} {k : Nat} {f : Addr} {m : Nat} {ks : List Str} {name qual : Str} {params : Arguments} {body : List Stmt} {scope : Scope} {dV kV doc pm cdv ct oc : Value} {an od : Option Addr} {osl : Array (Option Value)} {N ps : List Str} {ms : MS}
/-- the end of a body's run -/
theorem rd_body {E : XK} {H : Hp} {Q : VK} {φ : List Addr} {I : Hp} {σ : L2.St} {st : State} (R : Rp K (.at H φ I) σ H st φ I) (h : Fq K H φ I Q E (toF (ms st))) :
    rdS K (.at H φ I) (fun cls d _ H => E cls d H) ms { nx := fun _ H' => Q .non H', rt := Q } σ H := by
  refine ⟨st, φ, I, R, ?_⟩
  cases e : ms st with
  | nx st' => rw [e] at h; exact fun σ' H' φ' I' _ R' => h .non H' φ' I' R'.forget .non
  | rt r st' =>
    rw [e] at h
    cases r with
    | lo i => exact h.elim
    | sh d => exact fun v σ' H' φ' I' _ R' hr => h v H' φ' I' R'.forget (hr.forget fun i z => by cases z)
    | ow c => exact fun v σ' H' φ' I' _ R' hr => h v H' φ' I' R'.forget (hr.forget fun i z => by cases z)
  | exc c st' => rw [e] at h; exact fun d σ' H' φ' I' _ R' hx => h d H' φ' I' R'.forget hx
  | bk st' => rw [e] at h; exact h.elim
  | ct st' => rw [e] at h; exact h.elim
  | stuck => rw [e] at h; exact h.elim
/-- THE RULE for a def: perm tells which of the arguments (in the call's order, the defaults behind them) goes to each parameter -/
theorem fn_c {ds0 : List Value} {dd0 : List D} {dv0 : List V} (pick : ∀ {α : Type}, List α → List α) (hpick : ∀ {α β : Type} (R : α → β → Prop) (xs : List α) (ys : List β), Paired R xs ys → Paired R (pick xs) (pick ys))
    (lk : K.lookup f = some ⟨oc, od, .func (PySem.W.fnOf name qual params body scope dV kV doc pm an cdv ct), osl⟩) (hcd : PySem.W.codeIn K cdv qual = true) (S : FnScope N ps scope)
    (hb : ∀ (s : Shared) (us : List Value), K.In s.heap → us.length = m + ks.length → BindsTo s (PySem.W.fnOf name qual params body scope dV kV doc pm an cdv ct) ⟨us.take m, ks.zip (us.drop m)⟩ (ps.zip (pick us)))
    (hlen : ∀ {α : Type} (xs : List α), xs.length = m + ks.length → (pick xs).length = ps.length)
    (hbody : ∀ (A : Around) (outer : List Env) (s : Shared) (H : Hp) (Ee : Ent) (E : XK), Room k (A.deeper (PyProof.Rows.envOfC qual scope s.heap.objs.size f cdv)) → (A.deeper (PyProof.Rows.envOfC qual scope s.heap.objs.size f cdv)).guards = some [] →
      Takes (cxOf (L2.CX P w) P w K mg base N qual scope f cdv A outer s H E) (fun cls d _ H => E cls d H) → SSs (cxOf (L2.CX P w) P w K mg base N qual scope f cdv A outer s H E) Ee (fun cls d _ H => E cls d H) body ms) :
    FnC P w K mg base (k + 1) f m ks (fun ds store => runF ms (N.length - ps.length) (pick ds) store) := by
  intro A outer s H us vs Q E hr hgd e0 hv hl ⟨ds, store, φ, I, hq, hvs, hf⟩
  have KX : K.In s.heap := e0.mod.kin.keeps fun b o e => (e0.bs b o e).1
  have hlv : vs.length = m + ks.length := by rw [hv.length]; exact hl
  have hld : ds.length = m + ks.length := by rw [hvs.len]; exact hlv
  have hp : Rvs K φ I (pick ds) (pick vs) := by
    have aux : ∀ {ds : List D} {vs : List V}, Rvs K φ I ds vs ↔ Paired (Rv K φ I) ds vs := by
      intro ds vs
      constructor
      · intro h
        induction ds generalizing vs with
        | nil => cases h; exact .nil
        | cons d ds ih => cases h with | cons h1 h2 => exact .cons h1 (ih h2)
      · intro h
        induction h with
        | nil => exact .nil
        | cons h1 _ ih => exact .cons h1 ih
    exact aux.mpr (hpick _ _ _ (aux.mp hvs))
  have hpV : Vals (pick vs) (pick us) := hpick _ _ _ hv
  refine StX.run_bnd (ps := ps) (G := fun vs' H' => vs' = pick vs ∧ H' = H) lk hcd S hr e0 (fun A' Ex Q' h' => ?_) fun s2 H2 vs' hG hr' => ?_
  · exact hb s us KX hl _ _ _ _ (h' s H (pick vs) (pick us) e0 Un.refl rfl (fun _ _ z => z) hpV (hlen _ hlv) ⟨rfl, rfl⟩)
  · obtain ⟨rfl, rfl⟩ := hG
    have hpl : ps.length ≤ N.length := by
      have := congrArg List.length S.pre
      rw [List.length_take] at this
      omega
    have hpd : (pick ds).length = ps.length := hlen _ hld
    refine ⟨_, hbody A outer s2 H2 (.at H2 φ I) E hr' (by rw [show (A.deeper _).guards = A.guards from rfl]; exact hgd) (takes_of rfl rfl rfl rfl), ?_⟩
    refine rd_body (ms := ms) (Rq.enter hq hp (by omega)) ?_
    rw [hpd]
    exact hf
end
end PM
set_option Elab.async false
set_option linter.all false
set_option maxRecDepth 100000
set_option maxHeartbeats 1200000
namespace PM
open PySem PySem.Spec L2
section
variable {K : PySem.W.Frag} {E : Ent} {σ : L2.St} {H H' : Hp} {st : State} {φ φ' : List Addr} {I I' : Hp} {store' : List Cell}
theorem Rp.ask (R : Rp K E σ H st φ I) : Rq K H st.store φ I := ⟨R.ext, R.nd, R.len, R.cells, R.pin⟩
/-- behind a call -/
theorem Rp.after (R : Rp K E σ H st φ I) (B : Rp K (.at H φ I) [] H' (st0 store') φ' I') : Rp K E σ H' { st with store := store' } φ' I' ∧ Stp σ H st φ I H' { st with store := store' } φ' I' := by
  obtain ⟨more, hm⟩ := B.pre
  have hm : φ' = φ ++ more := hm
  have pf : φ <+: φ' := ⟨more, hm.symm⟩
  have nf : ∀ a ∈ φ', a ∉ φ → H a = none := fun a h n => (B.pnew a h).elim (fun z => absurd z n) id
  have own : ∀ (i : Nat) (c : Cell), st.env[i]? = some (Slot.ow c) → ∃ a, σ[i]? = some (some (V.ref a)) ∧ CellAt K φ' I' H' a c ∧ a ∉ φ' ∧ E.H0 a = none := fun i c h => by
    obtain ⟨a, h1, ⟨o, e1, e2, e3⟩, h3, h4⟩ := R.ow i c h
    refine ⟨a, h1, ⟨o, B.keep a o e1 h3, ?_, e3.mono pf B.iold⟩, fun z => ?_, h4⟩
    · cases q : I' a with
      | none => rfl
      | some u =>
        rcases B.inew a (by rw [q]; simp) e2 with z | z
        · have z : H a = none := z
          rw [e1] at z
          cases z
        · exact absurd z h3
    · have := nf a z h3
      rw [e1] at this
      cases this
  refine ⟨⟨B.ext, fun a o e n => ?_, fun a h => B.there a (R.there a h), fun a h n => ?_, R.iold.trans B.iold, ?_, (R.fl.ii B.iold).pp pf, fun a h => ?_, B.nd, B.len, B.cells, B.pin, R.elen, fun i d h => ?_, own, R.one⟩, ⟨pf, nf, B.iold, fun a o e n _ => B.keep a o e n, B.there, fun a h n => (B.inew a h n).elim .inl fun z => .inr (.inl z), fun _ _ h => h⟩⟩
  · refine B.keep a o (R.keep a o e n) fun z => ?_
    rcases R.pnew a z with q | q
    · exact n q
    · rw [e] at q; cases q
  · cases q : I a with
    | some u => exact R.inew a (by rw [q]; simp) n
    | none =>
      rcases B.inew a h q with z | z
      · have z : H a = none := z
        refine .inl ?_
        cases q2 : E.H0 a with
        | none => rfl
        | some o => exact absurd z (R.there a (by rw [q2]; simp))
      · exact (R.pnew a z).elim .inr .inl
  · obtain ⟨m1, e1⟩ := R.pre
    exact ⟨m1 ++ more, by rw [hm, e1, List.append_assoc]⟩
  · rcases B.pnew a h with z | z
    · exact R.pnew a z
    · have z : H a = none := z
      refine .inr ?_
      cases q2 : E.H0 a with
      | none => rfl
      | some o => exact absurd z (R.there a (by rw [q2]; simp))
  · obtain ⟨v, h1, h2⟩ := R.sh i d h
    exact ⟨v, h1, h2.mono pf B.iold⟩
theorem Rr.after (R : Rp K E σ H st φ I) {r : RV} {v : V} (h : Rr K (.at H φ I) [] H' (st0 store') φ' I' r v) (hl : ∀ i, r ≠ .lo i) : Rr K E σ H' { st with store := store' } φ' I' r v ∧ Nw σ H st r v := by
  cases r with
  | lo i => exact absurd rfl (hl i)
  | sh d => exact ⟨h, Nw.sh⟩
  | ow c =>
    obtain ⟨a, e, h1, h2, h3, _⟩ := h
    have h3 : H a = none := h3
    obtain ⟨f1, f2, f3, f4⟩ := R.fresh h3
    refine ⟨⟨a, e, h1, h2, f1, f4⟩, fun b c' _ e2 => ?_⟩
    rw [e] at e2
    cases e2
    exact h3
end
theorem Rx.after {K : PySem.W.Frag} {E : Ent} {σ : L2.St} {H H' : Hp} {st : State} {φ φ' : List Addr} {I I' : Hp} (R : Rp K E σ H st φ I) {fs : Option (List (Str × D))} {d : Option Addr} (h : Rx K (.at H φ I) φ' I' H' fs d) : Rx K E φ' I' H' fs d := by
  cases fs with
  | none => exact h
  | some fs =>
    obtain ⟨a, us, e1, e2, e3⟩ := h
    refine ⟨a, us, e1, ?_, e3⟩
    have e2 : H a = none := e2
    cases q : E.H0 a with
    | none => rfl
    | some o => exact absurd e2 (R.there a (by rw [q]; simp))
def ofF (st : State) : FRes → Out RV
  | .ret (.lo _) _ => .stuck
  | .ret r store => .ok r { st with store := store }
  | .exc c store => .exc c { st with store := store }
  | .stuck => .stuck
def mCall (n : Nat) (F : Fn) (args : M (List D)) : M RV := args.bind fun ds st => if ds.length = n then ofF st (F ds st.store) else .stuck
section
variable {X : Cx} {E : Ent} {W : WX} {pos p : Pos} {k : Nat} {f : Addr} {m : Nat} {ks : List Str} {F : Fn} {x : Str} {e : Expr} {es : List Expr} {ma : M (List D)}
/-- the callee runs -/
theorem run_c {pins : List (Addr × Obj)} {σ : L2.St} {H : Hp} {s : Shared} {Q : VK} {us ws : List Value} {vs zs : List V} (hF : FnC X.prog X.w X.K X.mg X.base k f m ks F) (hr : Room k X.A) (hgd : X.A.guards = some []) (tk : Takes X W)
    (I : Inv X pins σ H s) (r : Vals vs us) (rz : Vals zs ws) (hm : us.length = m) (hk : ws.length = ks.length) (h : spOf X.K F (vs ++ zs) H Q (WE W σ)) : wpAny (model X.prog X.w) X.A (call (.ref f) us (ks.zip ws)) (EP X pins σ Q) X.xe s := by
  have h1 : (us ++ ws).take m = us := by rw [← hm]; exact List.take_left
  have h2 : (us ++ ws).drop m = ws := by rw [← hm]; exact List.drop_left
  have c := hF X.A X.stack s H (us ++ ws) (vs ++ zs) Q (WE W σ) hr hgd I.env0 (r.append rz) (by rw [List.length_append, hm, hk]) h
  rw [h1, h2] at c
  refine wpAny_call (codeAny_mono c fun r s' hq => ?_)
  cases r with
  | error e => exact passAt tk σ pins H s e s' I hq
  | ok fl =>
    cases fl with
    | ret u => exact I.after hq
    | next => exact hq.elim
    | brk => exact hq.elim
    | cont => exact hq.elim
/-- what a call's run asks of the promise -/
theorem rd_call {σ : L2.St} {H : Hp} {Q : VK} {n : Nat} (h : rdR X.K E W (mCall n F ma) σ H Q) : rdA X.K E W ma σ H fun vs H1 => vs.length = n ∧ spOf X.K F vs H1 Q (WE W σ) := by
  obtain ⟨st, φ, I, R, p⟩ := h
  refine ⟨st, φ, I, R, (Po.bind p).imp fun ds H1 st1 φ1 I1 S1 R1 q vs hv => ?_⟩
  by_cases hn : ds.length = n
  · rw [if_pos hn] at q
    refine ⟨by rw [← hv.len]; exact hn, ds, st1.store, φ1, I1, R1.ask, hv, ?_⟩
    cases e : F ds st1.store with
    | stuck => rw [e] at q; exact q.elim
    | exc c store' =>
      rw [e] at q
      intro d H' φ' I' B hx
      obtain ⟨R2, S2⟩ := R1.after B
      exact q d H' φ' I' S2 R2 (Rx.after R1 hx)
    | ret r store' =>
      rw [e] at q
      intro v H' φ' I' B hr
      obtain ⟨R2, S2⟩ := R1.after B
      cases r with
      | lo i => exact q.elim
      | sh d =>
        obtain ⟨hr', hn'⟩ := Rr.after R1 hr (fun i z => by cases z)
        exact q H' φ' I' S2 R2 v hr' (hn'.back S1)
      | ow c =>
        obtain ⟨hr', hn'⟩ := Rr.after R1 hr (fun i z => by cases z)
        exact q H' φ' I' S2 R2 v hr' (hn'.back S1)
  · rw [if_neg hn] at q
    exact q.elim
theorem sr_call (hF : FnC X.prog X.w X.K X.mg X.base k f m [] F) (hr : Room k X.A) (hgd : X.A.guards = some []) (tk : Takes X W) (hg : Gl X x) (hm : X.mg x = some (.ref f)) (hk : PySem.W.keepIn X.K (.ref f) = true) (ha : SA X E W (e :: es) ma)
    (hdb : (x == ("__debug__" : Str)) = false := by decide) (he : starEach (e :: es) X.env = (false, eval e X.env) :: starEach es X.env := by rfl) (hpl : (backTo pos (starEach es X.env)).any (·.1) = false := by rfl) :
    SR X E W (.Call (.Name x p) (e :: es) [] pos) (mCall m F ma) := ⟨fun pins s σ H Q I h => by
  refine wpAny_Call_Name_kw (ld_glob I hg hm ?_ hdb)
  refine PySem.W.callWith_K (h₀ := X.base) I.ok.mod.kin hk (thn (ha.run pos pins s σ H _ I (rd_call h)) fun us s1 ⟨vs, H1, I1, r, hl, q⟩ => ⟨I1.kIn, ?_⟩) he hpl
  have c := run_c (us := us) (ws := []) (vs := vs) (zs := []) hF hr hgd tk I1 r .nil (by rw [← r.length]; exact hl) rfl (by rw [List.append_nil]; exact q)
  exact c⟩
end
end PM
set_option Elab.async false
set_option linter.all false
set_option maxRecDepth 100000
set_option maxHeartbeats 1200000
namespace PM
open PySem PySem.Spec L2
/-! ### what is seen -/
section
variable {K : PySem.W.Frag} {φ : List Addr} {I H : Hp} {v : V}
theorem Seen.int {i : Int} (h : Seen K φ I H (.int i) v) : v = .int i := by
  rcases h with h | ⟨a, c, _, e, _⟩
  · cases h; rfl
  · cases c <;> cases e
theorem Seen.bl {i : Bool} (h : Seen K φ I H (.bl i) v) : v = .bl i := by
  rcases h with h | ⟨a, c, _, e, _⟩
  · cases h; rfl
  · cases c <;> cases e
theorem Seen.str {i : Str} (h : Seen K φ I H (.str i) v) : v = .str i := by
  rcases h with h | ⟨a, c, _, e, _⟩
  · cases h; rfl
  · cases c <;> cases e
theorem Seen.non (h : Seen K φ I H .non v) : v = .non := by
  rcases h with h | ⟨a, c, _, e, o, _, _, q⟩
  · cases h; rfl
  · cases c with
    | dead => cases q
    | _ => cases e
theorem Seen.tup {ds : List D} (hx : Ex I H) (h : Seen K φ I H (.tup ds) v) : ∃ a vs, v = .ref a ∧ H a = some (.tup vs) ∧ Rvs K φ I ds vs := by
  rcases h with h | ⟨a, c, _, e, _⟩
  · cases h with
    | tup h1 h2 => exact ⟨_, _, rfl, hx _ _ h1, h2⟩
  · cases c <;> cases e
theorem Seen.tpF {ds : List D} (hx : Ex I H) (h : Seen K φ I H (.tpF ds) v) : ∃ a vs, v = .ref a ∧ SqT K H a vs ∧ Rvs K φ I ds vs := by
  rcases h with h | ⟨a, c, _, e, _⟩
  · cases h with
    | tpF h1 h2 => exact ⟨_, _, rfl, sqT_mono hx h1, h2⟩
  · cases c <;> cases e
theorem Seen.lst {ds : List D} (hx : Ex I H) (h : Seen K φ I H (.lst ds) v) : ∃ a vs, v = .ref a ∧ H a = some (.lst vs) ∧ Rvs K φ I ds vs := by
  rcases h with h | ⟨a, c, rfl, e, o, h1, h2, h3⟩
  · cases h with
    | lst h1 h2 => exact ⟨_, _, rfl, hx _ _ h1, h2⟩
  · cases c <;> cases e
    cases h3 with
    | ls h3 => exact ⟨a, _, rfl, h1, h3⟩
theorem Seen.lsF {ds : List D} (hx : Ex I H) (h : Seen K φ I H (.lsF ds) v) : ∃ a vs, v = .ref a ∧ SqL K H a vs ∧ Rvs K φ I ds vs := by
  rcases h with h | ⟨a, c, _, e, _⟩
  · cases h with
    | lsF h1 h2 => exact ⟨_, _, rfl, sqL_mono hx h1, h2⟩
  · cases c <;> cases e
end
/-- a list's items, whoever holds it -/
def asL : D → Option (List D)
  | .lst ds => some ds
  | .lsF ds => some ds
  | _ => none
def asT : D → Option (List D)
  | .tup ds => some ds
  | .tpF ds => some ds
  | _ => none
theorem Seen.asL {K : PySem.W.Frag} {φ : List Addr} {I H : Hp} {v : V} {d : D} {ds : List D} (hx : Ex I H) (h : Seen K φ I H d v) (e : asL d = some ds) : ∃ a vs, v = .ref a ∧ SqL K H a vs ∧ Rvs K φ I ds vs := by
  cases d <;> simp only [PM.asL, Option.some.injEq, reduceCtorEq] at e
  · subst e
    obtain ⟨a, vs, e1, e2, e3⟩ := h.lst hx
    exact ⟨a, vs, e1, .inl (.inl e2), e3⟩
  · subst e
    exact h.lsF hx
theorem Seen.asT {K : PySem.W.Frag} {φ : List Addr} {I H : Hp} {v : V} {d : D} {ds : List D} (hx : Ex I H) (h : Seen K φ I H d v) (e : asT d = some ds) : ∃ a vs, v = .ref a ∧ SqT K H a vs ∧ Rvs K φ I ds vs := by
  cases d <;> simp only [PM.asT, Option.some.injEq, reduceCtorEq] at e
  · subst e
    obtain ⟨a, vs, e1, e2, e3⟩ := h.tup hx
    exact ⟨a, vs, e1, .inl (.inl e2), e3⟩
  · subst e
    exact h.tpF hx
section
variable {X : Cx} {E : Ent} {W : WX}
theorem op_cases {f : Value → Value → Sem Value} {r : R2} (h : ∀ v w H Q, r v w H Q → ∃ r', OpR X f r' ∧ r' v w H Q) : OpR X f r := fun pins s σ H x y v u Q I rx ry q => by
  obtain ⟨r', h1, h2⟩ := h _ _ _ _ q
  exact h1 pins s σ H x y v u Q I rx ry h2
theorem Af.sh {K : PySem.W.Frag} {σ : L2.St} {H : Hp} {st : State} {φ : List Addr} {I : Hp} {d : D} {v : V} {Q : VK} (h : Af K E σ H st φ I (.sh d) Q) (R : Rp K E σ H st φ I) (hv : Rv K φ I d v) : Q v H := h v H I Stp.refl R hv fun _ _ e => by cases e
theorem Af.tup {K : PySem.W.Frag} {σ : L2.St} {H : Hp} {st : State} {φ : List Addr} {I : Hp} {ds : List D} {vs : List V} {Q : VK} (h : Af K E σ H st φ I (.sh (.tup ds)) Q) (R : Rp K E σ H st φ I) (hv : Rvs K φ I ds vs) : ∀ p, H p = none → Q (.ref p) (upd H p (.tup vs)) := fun p hp => by
  obtain ⟨R2, S2⟩ := R.laidS hp (.tup vs)
  exact h _ _ _ S2 R2 (.tup upd_same (hv.mono S2.pf S2.ii)) fun _ _ e => by cases e
theorem Af.lst {K : PySem.W.Frag} {σ : L2.St} {H : Hp} {st : State} {φ : List Addr} {I : Hp} {ds : List D} {vs : List V} {Q : VK} (h : Af K E σ H st φ I (.ow (.ls ds)) Q) (R : Rp K E σ H st φ I) (hv : Rvs K φ I ds vs) : ∀ p, H p = none → Q (.ref p) (upd H p (.lst vs)) := fun p hp => by
  obtain ⟨R2, S2⟩ := R.laidO hp (.lst vs)
  obtain ⟨h0, hφ, hI, ho⟩ := R.fresh hp
  exact h _ _ _ S2 R2 ⟨p, rfl, ⟨_, upd_same, hI, .ls hv⟩, hφ, h0, ho⟩ fun a c _ e => by cases e; exact hp
/-! ### numbers -/
/-- of a size that is reckoned with -/
def sml (i : Int) : Bool := decide (i.natAbs.log2 < 400000)
def opAdd : D → D → Option RV
  | .int i, .int j => some (.sh (.int (i + j)))
  | .str a, .str b => if a.length + b.length ≤ lim then some (.sh (.str (a ++ b))) else none
  | .lst a, .lst b => if a.length + b.length ≤ lim then some (.ow (.ls (a ++ b))) else none
  | .tup a, .tup b => if a.length + b.length ≤ lim then some (.sh (.tup (a ++ b))) else none
  | _, _ => none
def opSub : D → D → Option RV
  | .int i, .int j => some (.sh (.int (i - j)))
  | _, _ => none
def opMul : D → D → Option RV
  | .int i, .int j => if sml i && sml j then some (.sh (.int (i * j))) else none
  | _, _ => none
def opFdv : D → D → Option RV
  | .int i, .int j => if 0 < j ∧ j.natAbs.log2 < 9000 then some (.sh (.int (i / j))) else if j < 0 ∧ j.natAbs.log2 < 9000 then some (.sh (.int (i.fdiv j))) else none
  | _, _ => none
def opMod : D → D → Option RV
  | .int i, .int j => if 0 < j then some (.sh (.int (i % j))) else none
  | _, _ => none
def opPow : D → D → Option RV
  | .int i, .int j => if 0 ≤ j ∧ j ≤ 1000 ∧ i.natAbs < 2 ^ 64 then some (.sh (.int (i ^ j.toNat))) else none
  | _, _ => none
def opNeg : D → Option RV
  | .int i => some (.sh (.int (-i)))
  | _ => none
theorem os_add : OpS X E (binaryOp .Add) opAdd := op_cases fun v w H Q ⟨σ, st, φ, I, x, y, r, R, hx, hy, e, q⟩ => by
  cases x <;> try (simp [opAdd] at e; done)
  all_goals cases y <;> try (simp [opAdd] at e; done)
  · simp only [opAdd, Option.some.injEq] at e
    subst e
    exact ⟨_, op_add, _, _, hx.int, hy.int, q.sh R (.int _)⟩
  · rename_i a b
    simp only [opAdd] at e
    by_cases h : a.length + b.length ≤ lim
    · rw [if_pos h] at e
      cases e
      exact ⟨_, op_add_str, _, _, hx.str, hy.str, Nat.le_trans h lim_le, q.sh R (.str _)⟩
    · rw [if_neg h] at e
      cases e
  · rename_i a b
    simp only [opAdd] at e
    by_cases h : a.length + b.length ≤ lim
    · rw [if_pos h] at e
      cases e
      obtain ⟨p, vs, rfl, h1, h2⟩ := hx.tup R.ext
      obtain ⟨p', ws, rfl, h3, h4⟩ := hy.tup R.ext
      have back : ∀ {z : D} {u : V}, Seen X.K φ I H z u → (∃ l, z = .tup l) → Rv X.K φ I z u := fun hz ⟨l, hl⟩ => hz.elim id fun ⟨_, c, _, e, _⟩ => by subst hl; cases c <;> cases e
      refine ⟨_, op_catA, p, p', vs, ws, rfl, rfl, .inl (.inl h1), .inl (.inl h3), ?_, fun z => ?_, fun _ z => ?_, fun _ _ => q.tup R (h2.append h4)⟩
      · rw [← h2.len, ← h4.len]
        exact Nat.le_trans h lim_le
      · subst z
        cases h2
        exact q.sh R (back hy ⟨_, rfl⟩)
      · subst z
        cases h4
        rw [List.append_nil] at q
        exact q.sh R (back hx ⟨_, rfl⟩)
    · rw [if_neg h] at e
      cases e
  · rename_i a b
    simp only [opAdd] at e
    by_cases h : a.length + b.length ≤ lim
    · rw [if_pos h] at e
      cases e
      obtain ⟨p, vs, rfl, h1, h2⟩ := hx.lst R.ext
      obtain ⟨p', ws, rfl, h3, h4⟩ := hy.lst R.ext
      exact ⟨_, op_cat, p, p', vs, ws, rfl, rfl, h1, h3, by rw [← h2.len, ← h4.len]; exact Nat.le_trans h lim_le, q.lst R (h2.append h4)⟩
    · rw [if_neg h] at e
      cases e
theorem os_sub : OpS X E (binaryOp .Sub) opSub := op_cases fun v w H Q ⟨σ, st, φ, I, x, y, r, R, hx, hy, e, q⟩ => by
  cases x <;> try (simp [opSub] at e; done)
  all_goals cases y <;> try (simp [opSub] at e; done)
  simp only [opSub, Option.some.injEq] at e
  subst e
  exact ⟨_, op_sub, _, _, hx.int, hy.int, q.sh R (.int _)⟩
theorem os_mul : OpS X E (binaryOp .Mult) opMul := op_cases fun v w H Q ⟨σ, st, φ, I, x, y, r, R, hx, hy, e, q⟩ => by
  cases x <;> try (simp [opMul] at e; done)
  all_goals cases y <;> try (simp [opMul] at e; done)
  rename_i i j
  simp only [opMul] at e
  by_cases h : (sml i && sml j) = true
  · rw [if_pos h] at e
    cases e
    have h1 := of_decide_eq_true (Bool.and_eq_true_iff.mp h).1
    have h2 := of_decide_eq_true (Bool.and_eq_true_iff.mp h).2
    exact ⟨_, op_mulW, _, _, hx.int, hy.int, by unfold CMulW; omega, q.sh R (.int _)⟩
  · rw [if_neg h] at e
    cases e
theorem op_fdivX : OpR X (binaryOp .FloorDiv) (rI (fun _ j => j ≠ 0 ∧ j.natAbs.log2 < 9000) fun i j => .int (i.fdiv j)) := opI fun i j _ _ _ _ _ hc q => PyProof.Rows.floordiv_int hc.1 q (.inl (PyProof.noPylong_of_log2 hc.2))
theorem os_fdv : OpS X E (binaryOp .FloorDiv) opFdv := op_cases fun v w H Q ⟨σ, st, φ, I, x, y, r, R, hx, hy, e, q⟩ => by
  cases x <;> try (simp [opFdv] at e; done)
  all_goals cases y <;> try (simp [opFdv] at e; done)
  rename_i i j
  simp only [opFdv] at e
  by_cases h : 0 < j ∧ j.natAbs.log2 < 9000
  · rw [if_pos h] at e
    cases e
    exact ⟨_, op_fdivW, _, _, hx.int, hy.int, h, q.sh R (.int _)⟩
  · rw [if_neg h] at e
    by_cases h : j < 0 ∧ j.natAbs.log2 < 9000
    · rw [if_pos h] at e
      cases e
      exact ⟨_, op_fdivX, _, _, hx.int, hy.int, ⟨by omega, h.2⟩, q.sh R (.int _)⟩
    · rw [if_neg h] at e
      cases e
theorem os_mod : OpS X E (binaryOp .Mod) opMod := op_cases fun v w H Q ⟨σ, st, φ, I, x, y, r, R, hx, hy, e, q⟩ => by
  cases x <;> try (simp [opMod] at e; done)
  all_goals cases y <;> try (simp [opMod] at e; done)
  rename_i i j
  simp only [opMod] at e
  by_cases h : 0 < j
  · rw [if_pos h] at e
    cases e
    exact ⟨_, op_mod, _, _, hx.int, hy.int, h, q.sh R (.int _)⟩
  · rw [if_neg h] at e
    cases e
theorem os_pow : OpS X E (binaryOp .Pow) opPow := op_cases fun v w H Q ⟨σ, st, φ, I, x, y, r, R, hx, hy, e, q⟩ => by
  cases x <;> try (simp [opPow] at e; done)
  all_goals cases y <;> try (simp [opPow] at e; done)
  rename_i i j
  simp only [opPow] at e
  by_cases h : 0 ≤ j ∧ j ≤ 1000 ∧ i.natAbs < 2 ^ 64
  · rw [if_pos h] at e
    cases e
    exact ⟨_, op_pow, _, _, hx.int, hy.int, ⟨h.1, by omega, h.2.2⟩, q.sh R (.int _)⟩
  · rw [if_neg h] at e
    cases e
theorem un_cases {f : Value → Sem Value} {r : V → Hp → VK → Prop} (h : ∀ v H Q, r v H Q → ∃ r', UnR X f r' ∧ r' v H Q) : UnR X f r := fun pins s σ H x v Q I rx q => by
  obtain ⟨r', h1, h2⟩ := h _ _ _ q
  exact h1 pins s σ H x v Q I rx h2
theorem us_neg : UnR X (unaryOp .USub) (rdU X.K E opNeg) := un_cases fun v H Q ⟨σ, st, φ, I, x, r, R, hx, e, q⟩ => by
  cases x <;> try (simp [opNeg] at e; done)
  simp only [opNeg, Option.some.injEq] at e
  subst e
  exact ⟨_, un_neg, _, hx.int, q.sh R (.int _)⟩
/-! ### order, equality -/
def opLt : D → D → Option Bool
  | .int i, .int j => some (decide (i < j))
  | .str a, .str b => some (decide (a.cps.toList < b.cps.toList))
  | _, _ => none
def opLe : D → D → Option Bool
  | .int i, .int j => some (decide (i ≤ j))
  | .str a, .str b => some (!decide (b.cps.toList < a.cps.toList))
  | _, _ => none
def opGt : D → D → Option Bool
  | .int i, .int j => some (decide (j < i))
  | .str a, .str b => some (decide (b.cps.toList < a.cps.toList))
  | _, _ => none
def opGe : D → D → Option Bool
  | .int i, .int j => some (decide (j ≤ i))
  | .str a, .str b => some (!decide (a.cps.toList < b.cps.toList))
  | _, _ => none
theorem ob_lt : OpB X E (compareOp .Lt) opLt := op_cases fun v w H Q ⟨σ, st, φ, I, x, y, r, R, hx, hy, e, q⟩ => by
  cases x <;> try (simp [opLt] at e; done)
  all_goals cases y <;> try (simp [opLt] at e; done)
  all_goals (simp only [opLt, Option.some.injEq] at e; subst e)
  · exact ⟨_, op_lt, _, _, hx.int, hy.int, q⟩
  · exact ⟨_, op_lt_str, _, _, hx.str, hy.str, q⟩
theorem ob_gt : OpB X E (compareOp .Gt) opGt := op_cases fun v w H Q ⟨σ, st, φ, I, x, y, r, R, hx, hy, e, q⟩ => by
  cases x <;> try (simp [opGt] at e; done)
  all_goals cases y <;> try (simp [opGt] at e; done)
  all_goals (simp only [opGt, Option.some.injEq] at e; subst e)
  · exact ⟨_, op_gt, _, _, hx.int, hy.int, q⟩
  · exact ⟨_, op_gt_str, _, _, hx.str, hy.str, q⟩
theorem ob_ge : OpB X E (compareOp .GtE) opGe := op_cases fun v w H Q ⟨σ, st, φ, I, x, y, r, R, hx, hy, e, q⟩ => by
  cases x <;> try (simp [opGe] at e; done)
  all_goals cases y <;> try (simp [opGe] at e; done)
  all_goals (simp only [opGe, Option.some.injEq] at e; subst e)
  · exact ⟨_, op_ge, _, _, hx.int, hy.int, q⟩
  · exact ⟨_, op_ge_str, _, _, hx.str, hy.str, q⟩
mutual
def D.py : D → Option PyData
  | .non => some .none
  | .bl b => some (.bool b)
  | .int i => some (.int i)
  | .str s => some (.str s)
  | .tup ds => (D.pys ds).map .tuple
  | .tpF ds => (D.pys ds).map .tuple
  | .lst ds => (D.pys ds).map .list
  | .lsF ds => (D.pys ds).map .list
  | _ => none
def D.pys : List D → Option (List PyData)
  | [] => some []
  | d :: ds => (D.py d).bind fun p => (D.pys ds).map fun ps => p :: ps
end
theorem dp_of {K : PySem.W.Frag} {φ : List Addr} {I H : Hp} (hx : Ex I H) {d : D} {v : V} (h : Rv K φ I d v) : ∀ {p : PyData}, D.py d = some p → Dp K H v p := by
  refine Rv.rec (motive_1 := fun d v _ => ∀ {p : PyData}, D.py d = some p → Dp K H v p) (motive_2 := fun ds vs _ => ∀ {ps : List PyData}, D.pys ds = some ps → DpAll K H vs ps) ?_ ?_ ?_ ?_ ?_ ?_ ?_ ?_ ?_ ?_ ?_ ?_ ?_ ?_ ?_ ?_ ?_ ?_ h
  · intro p e; simp only [D.py, Option.some.injEq] at e; subst e; exact .non
  · intro b p e; simp only [D.py, Option.some.injEq] at e; subst e; exact .bl b
  · intro i p e; simp only [D.py, Option.some.injEq] at e; subst e; exact .int i
  · intro s p e; simp only [D.py, Option.some.injEq] at e; subst e; exact .str s
  · intro a vs ds h1 _ ih p e
    simp only [D.py] at e
    obtain ⟨ps, e1, rfl⟩ := Option.map_eq_some_iff.mp e
    exact .tup (.inl (.inl (hx _ _ h1))) (ih e1)
  · intro a vs ds h1 _ ih p e
    simp only [D.py] at e
    obtain ⟨ps, e1, rfl⟩ := Option.map_eq_some_iff.mp e
    exact .tup (sqT_mono hx h1) (ih e1)
  · intro a vs ds h1 _ ih p e
    simp only [D.py] at e
    obtain ⟨ps, e1, rfl⟩ := Option.map_eq_some_iff.mp e
    exact .lst (.inl (.inl (hx _ _ h1))) (ih e1)
  · intro a vs ds h1 _ ih p e
    simp only [D.py] at e
    obtain ⟨ps, e1, rfl⟩ := Option.map_eq_some_iff.mp e
    exact .lst (sqL_mono hx h1) (ih e1)
  · intro a us kvs od h1 h2 _ ih p e; simp [D.py] at e
  · intro a us kvs od h1 h2 _ ih p e; simp [D.py] at e
  · intro n a h1 p e; simp [D.py] at e
  · intro C a dx us fs h1 h2 _ ih p e; simp [D.py] at e
  · intro C a h1 p e; simp [D.py] at e
  · intro C a dx us fs h1 h2 h3 _ ih p e; simp [D.py] at e
  · intro C p e; simp [D.py] at e
  · intro v p e; simp [D.py] at e
  · intro ps e; simp only [D.pys, Option.some.injEq] at e; subst e; exact .nil
  · intro d v ds vs _ _ ih1 ih2 ps e
    simp only [D.pys] at e
    obtain ⟨p, e1, e2⟩ := Option.bind_eq_some_iff.mp e
    obtain ⟨qs, e3, rfl⟩ := Option.map_eq_some_iff.mp e2
    exact .cons (ih1 e1) (ih2 e3)
theorem dps_of {K : PySem.W.Frag} {φ : List Addr} {I H : Hp} (hx : Ex I H) {ds : List D} {vs : List V} (h : Rvs K φ I ds vs) {ps : List PyData} (e : D.pys ds = some ps) : DpAll K H vs ps := by
  induction ds generalizing vs ps with
  | nil => cases h; simp only [D.pys, Option.some.injEq] at e; subst e; exact .nil
  | cons d ds ih =>
    cases h with
    | cons h1 h2 =>
      simp only [D.pys] at e
      obtain ⟨p, e1, e2⟩ := Option.bind_eq_some_iff.mp e
      obtain ⟨qs, e3, rfl⟩ := Option.map_eq_some_iff.mp e2
      exact .cons (dp_of hx h1 e1) (ih h2 e3)
theorem Seen.dp {K : PySem.W.Frag} {φ : List Addr} {I H : Hp} {v : V} {d : D} {p : PyData} (hx : Ex I H) (h : Seen K φ I H d v) (e : D.py d = some p) : Dp K H v p := by
  rcases h with h | ⟨a, c, rfl, rfl, o, h1, h2, h3⟩
  · exact dp_of hx h e
  · cases h3 with
    | ls h3 =>
      simp only [Cell.frz, D.py] at e
      obtain ⟨ps, e1, rfl⟩ := Option.map_eq_some_iff.mp e
      exact .lst (.inl (.inl h1)) (dps_of hx h3 e1)
    | dc _ _ => simp [Cell.frz, D.py] at e
    | dt _ _ => simp [Cell.frz, D.py] at e
    | ins _ _ => simp [Cell.frz, D.py] at e
    | tab _ _ => simp [Cell.frz, D.py] at e
def opEq0 (x y : D) : Option Bool := x.py.bind fun p => y.py.bind fun q => if SeqAt.shaped p && SeqAt.shaped q then some (PyData.eqv p q) else none
/-- two lists of other lengths -/
def lenDiff (x y : D) : Bool := match asL x, asL y with
  | some a, some b => a.length != b.length
  | _, _ => false
/-- two dicts: of other lengths, or empty -/
def dctEq (ks ls : List (Key × D)) : Option Bool := if ks.length = ls.length then (if ks.isEmpty then some true else none) else some false
def opEq (x y : D) : Option Bool := match x, y with
  | .str a, .str b => some (a == b)
  | .dct ks, .dct ls => dctEq ks ls
  | .tup (_ :: _), .tup [] => some false
  | x, y => if lenDiff x y then some false else opEq0 x y
def opNe (x y : D) : Option Bool := (opEq x y).map (!·)
theorem opEq0_some {x y : D} {b : Bool} (e : opEq0 x y = some b) : ∃ p q, x.py = some p ∧ y.py = some q ∧ SeqAt.shaped p = true ∧ SeqAt.shaped q = true ∧ b = PyData.eqv p q := by
  unfold opEq0 at e
  obtain ⟨p, e1, e⟩ := Option.bind_eq_some_iff.mp e
  obtain ⟨q, e2, e⟩ := Option.bind_eq_some_iff.mp e
  by_cases h : (SeqAt.shaped p && SeqAt.shaped q) = true
  · rw [if_pos h] at e
    exact ⟨p, q, e1, e2, (Bool.and_eq_true_iff.mp h).1, (Bool.and_eq_true_iff.mp h).2, (Option.some.inj e).symm⟩
  · rw [if_neg h] at e
    cases e
@[simp] theorem lenDiff_t {ds : List D} {y : D} : lenDiff (.tup ds) y = false := rfl
@[simp] theorem lenDiff_n {y : D} : lenDiff .non y = false := rfl
@[simp] theorem lenDiff_i {i : Int} {y : D} : lenDiff (.int i) y = false := rfl
@[simp] theorem lenDiff_b {i : Bool} {y : D} : lenDiff (.bl i) y = false := rfl
@[simp] theorem lenDiff_s {i : Str} {y : D} : lenDiff (.str i) y = false := rfl
@[simp] theorem lenDiff_l {ds es : List D} : lenDiff (.lst ds) (.lst es) = (ds.length != es.length) := rfl
theorem lenDiff_some {x y : D} (h : lenDiff x y = true) : ∃ a b, asL x = some a ∧ asL y = some b ∧ a.length ≠ b.length := by
  unfold lenDiff at h
  split at h
  · rename_i a b h1 h2
    exact ⟨a, b, h1, h2, by simpa using h⟩
  · cases h
theorem opEq_some {x y : D} {b : Bool} (e : opEq x y = some b) : (∃ ks ls, x = .dct ks ∧ y = .dct ls ∧ dctEq ks ls = some b) ∨ (∃ a c, x = .str a ∧ y = .str c ∧ b = (a == c)) ∨ (b = false ∧ ∃ a c, asL x = some a ∧ asL y = some c ∧ a.length ≠ c.length) ∨ (b = false ∧ ∃ d ds, x = .tup (d :: ds) ∧ y = .tup []) ∨ opEq0 x y = some b := by
  unfold opEq at e
  split at e
  · exact .inr (.inl ⟨_, _, rfl, rfl, (Option.some.inj e).symm⟩)
  · exact .inl ⟨_, _, rfl, rfl, e⟩
  · exact .inr (.inr (.inr (.inl ⟨(Option.some.inj e).symm, _, _, rfl, rfl⟩)))
  · split at e
    · rename_i h
      exact .inr (.inr (.inl ⟨(Option.some.inj e).symm, lenDiff_some h⟩))
    · exact .inr (.inr (.inr (.inr e)))
theorem pys_nil {ds : List D} (h : D.pys ds = some []) : ds = [] := by
  cases ds with
  | nil => rfl
  | cons d ds =>
    obtain ⟨p, e1, e2⟩ := Option.bind_eq_some_iff.mp (show (D.py d).bind (fun p => (D.pys ds).map fun ps => p :: ps) = _ from h)
    obtain ⟨_, _, e3⟩ := Option.map_eq_some_iff.mp e2
    cases e3
/-- what the data of a tuple tell -/
theorem opEq_t {ds : List D} {y : D} {b : Bool} (h : opEq0 (.tup ds) y = some b) : opEq (.tup ds) y = some b := by
  unfold opEq
  split
  · next e => cases e
  · next e => cases e
  · next d es e =>
    cases e
    obtain ⟨p, q, e1, e2, s1, s2, rfl⟩ := opEq0_some h
    obtain ⟨ps, e3, rfl⟩ := Option.map_eq_some_iff.mp (show (D.pys (d :: es)).map PyData.tuple = _ from e1)
    cases (show some (PyData.tuple []) = some q from e2)
    cases ps with
    | nil => cases pys_nil e3
    | cons p ps => simp [PyData.eqv, PyData.eqvAll]
  · exact h
@[simp] theorem opEq_tn {d : D} {ds : List D} : opEq (.tup (d :: ds)) (.tup []) = some false := rfl
@[simp] theorem opEq_nn : opEq (.tup []) (.tup []) = some true := opEq_t (by simp [opEq0, D.py, D.pys, SeqAt.shaped, PyData.canLay0, PyData.canLayAll0, PyData.depth, PyData.depthAll, PyData.eqv, PyData.eqvAll])
theorem opEq_l0 (ds : List D) : opEq (.lst ds) (.lst []) = some ds.isEmpty := by
  cases ds with
  | nil =>
    show (if lenDiff (.lst []) (.lst []) then some false else opEq0 (.lst []) (.lst [])) = _
    rw [lenDiff_l]
    simp [opEq0, D.py, D.pys, SeqAt.shaped, PyData.canLay0, PyData.canLayAll0, PyData.depth, PyData.depthAll, PyData.eqv, PyData.eqvAll]
  | cons d ds =>
    show (if lenDiff (.lst (d :: ds)) (.lst []) then some false else opEq0 (.lst (d :: ds)) (.lst [])) = _
    rw [lenDiff_l]
    rfl
theorem opNe_l0 (ds : List D) : opNe (.lst ds) (.lst []) = some (!ds.isEmpty) := by
  unfold opNe
  rw [opEq_l0]
  rfl
theorem seen_dct {K : PySem.W.Frag} {φ : List Addr} {I H : Hp} {kvs : List (Key × D)} {v : V} (hx : Ex I H) (h : Seen K φ I H (.dct kvs) v) : ∃ a us, v = .ref a ∧ Rd H a (.dK us) ∧ us.map (·.1) = kvs.map (·.1) ∧ Rvs K φ I (kvs.map (·.2)) (us.map (·.2)) := by
  rcases h with h | ⟨a, c, rfl, e, o, h1, h2, h3⟩
  · cases h with
    | dct h1 h2 h3 => exact ⟨_, _, rfl, .inr ⟨_, hx _ _ h1⟩, h2, h3⟩
  · cases c <;> cases e
    cases h3 with
    | dc k1 k2 => exact ⟨a, _, rfl, .inl h1, k1, k2⟩
def rEqDc : L2.R2 := fun x y H Q => ∃ a b us ws r, x = .ref a ∧ y = .ref b ∧ Rd H a (.dK us) ∧ Rd H b (.dK ws) ∧ (us.length = ws.length → us = [] ∧ r = true) ∧ Q (.bl (us.length == ws.length && r)) H
def rNeDc : L2.R2 := fun x y H Q => ∃ a b us ws r, x = .ref a ∧ y = .ref b ∧ Rd H a (.dK us) ∧ Rd H b (.dK ws) ∧ (us.length = ws.length → us = [] ∧ r = true) ∧ Q (.bl (!(us.length == ws.length && r))) H
theorem kv_len : ∀ {us : List (Key × V)} {vs : List (Key × Value)}, KV us vs → us.length = vs.length
  | _, _, .nil => rfl
  | _, _, .cons _ r => by rw [List.length_cons, List.length_cons, kv_len r]
theorem op_eqDc (hu : X.A.units + 64 < cLine) : L2.OpR X (compareOp .Eq) rEqDc := by
  intro pins s σ H x y v u Q I rx ry h
  obtain ⟨a, b, us, ws, r, rfl, rfl, ha, hb, hl, q⟩ := h
  cases (show v = Value.ref a from rx)
  cases (show u = Value.ref b from ry)
  obtain ⟨_, ya, va, ra, da⟩ := dk_rd I.hok ha
  obtain ⟨_, yb, vb, rb, db⟩ := dk_rd I.hok hb
  have l1 := kv_len ra
  have l2 := kv_len rb
  refine PySem.W.keq_eq (knd := mixKind X.prog X.w) (r := r) ya yb da db (by omega) (fun e => ?_) ?_
  · obtain ⟨z, rfl⟩ := hl (by omega)
    rw [z, List.length_nil] at l1
    rw [List.eq_nil_of_length_eq_zero l1.symm]
    exact .nil
  · rw [← l1, ← l2]
    exact ⟨.bl _, H, I, rfl, q⟩
theorem op_neDc (hu : X.A.units + 64 < cLine) : L2.OpR X (compareOp .NotEq) rNeDc := by
  intro pins s σ H x y v u Q I rx ry h
  obtain ⟨a, b, us, ws, r, rfl, rfl, ha, hb, hl, q⟩ := h
  cases (show v = Value.ref a from rx)
  cases (show u = Value.ref b from ry)
  obtain ⟨_, ya, va, ra, da⟩ := dk_rd I.hok ha
  obtain ⟨_, yb, vb, rb, db⟩ := dk_rd I.hok hb
  have l1 := kv_len ra
  have l2 := kv_len rb
  refine PySem.W.keq_ne (knd := mixKind X.prog X.w) (r := r) ya yb da db (by omega) (fun e => ?_) ?_
  · obtain ⟨z, rfl⟩ := hl (by omega)
    rw [z, List.length_nil] at l1
    rw [List.eq_nil_of_length_eq_zero l1.symm]
    exact .nil
  · rw [← l1, ← l2]
    exact ⟨.bl _, H, I, rfl, q⟩
theorem dctEq_rd {K : PySem.W.Frag} {φ : List Addr} {I H : Hp} {ks ls : List (Key × D)} {v w : V} {b : Bool} (hx : Ex I H) (h1 : Seen K φ I H (.dct ks) v) (h2 : Seen K φ I H (.dct ls) w) (e : dctEq ks ls = some b) :
    ∃ a c us ws, v = .ref a ∧ w = .ref c ∧ Rd H a (.dK us) ∧ Rd H c (.dK ws) ∧ (us.length = ws.length → us = [] ∧ true = true) ∧ (us.length == ws.length && true) = b := by
  obtain ⟨a, us, rfl, a1, a2, _⟩ := seen_dct hx h1
  obtain ⟨c, ws, rfl, c1, c2, _⟩ := seen_dct hx h2
  have l1 : us.length = ks.length := by have := congrArg List.length a2; simpa using this
  have l2 : ws.length = ls.length := by have := congrArg List.length c2; simpa using this
  unfold dctEq at e
  refine ⟨a, c, us, ws, rfl, rfl, a1, c1, fun z => ?_, ?_⟩
  · rw [if_pos (by omega)] at e
    by_cases hk : ks.isEmpty = true
    · have : ks = [] := List.isEmpty_iff.mp hk
      subst this
      exact ⟨List.eq_nil_of_length_eq_zero l1, rfl⟩
    · rw [if_neg hk] at e; cases e
  · by_cases hl : ks.length = ls.length
    · rw [if_pos hl] at e
      by_cases hk : ks.isEmpty = true
      · rw [if_pos hk] at e
        cases e
        simp only [Bool.and_true, beq_iff_eq]; omega
      · rw [if_neg hk] at e; cases e
    · rw [if_neg hl] at e
      cases e
      simp only [Bool.and_true, beq_eq_false_iff_ne, ne_eq]; omega
@[simp] theorem opEq_d0 {ks : List (Key × D)} : opEq (.dct ks) (.dct []) = some ks.isEmpty := by
  cases ks <;> rfl
@[simp] theorem opNe_d0 {ks : List (Key × D)} : opNe (.dct ks) (.dct []) = some (!ks.isEmpty) := by
  cases ks <;> rfl
def rEqL (K : PySem.W.Frag) : L2.R2 := fun x y H Q => ∃ a b xs ys, x = .ref a ∧ y = .ref b ∧ SqL K H a xs ∧ SqL K H b ys ∧ xs.length ≠ ys.length ∧ Q (.bl false) H
def rNeL (K : PySem.W.Frag) : L2.R2 := fun x y H Q => ∃ a b xs ys, x = .ref a ∧ y = .ref b ∧ SqL K H a xs ∧ SqL K H b ys ∧ xs.length ≠ ys.length ∧ Q (.bl true) H
theorem op_eqL (hu : X.A.units + 64 < cLine) : L2.OpR X (compareOp .Eq) (rEqL X.K) := by
  intro pins s σ H x y v u Q I rx ry h
  obtain ⟨a, b, xs, ys, rfl, rfl, ha, hb, hl, q⟩ := h
  cases (show v = Value.ref a from rx)
  cases (show u = Value.ref b from ry)
  obtain ⟨us, r1, p1, _⟩ := I.list ha
  obtain ⟨ws, r2, p2, _⟩ := I.list hb
  have hsz : (us.toArray.size != ws.toArray.size) = true := by
    have h1 := r1.length
    have h2 := r2.length
    simp only [List.size_toArray, bne_iff_ne, ne_eq]
    omega
  exact PySem.EqBoolInt.of_rc (SeqAt.RcAt.lists_lengths p1.isList p2.isList hsz (by omega)) ⟨.bl _, H, I, rfl, q⟩
theorem op_neL (hu : X.A.units + 64 < cLine) : L2.OpR X (compareOp .NotEq) (rNeL X.K) := by
  intro pins s σ H x y v u Q I rx ry h
  obtain ⟨a, b, xs, ys, rfl, rfl, ha, hb, hl, q⟩ := h
  cases (show v = Value.ref a from rx)
  cases (show u = Value.ref b from ry)
  obtain ⟨us, r1, p1, _⟩ := I.list ha
  obtain ⟨ws, r2, p2, _⟩ := I.list hb
  have hsz : (us.toArray.size != ws.toArray.size) = true := by
    have h1 := r1.length
    have h2 := r2.length
    simp only [List.size_toArray, bne_iff_ne, ne_eq]
    omega
  exact PySem.EqBoolInt.of_rcne (SeqAt.RcNeAt.lists_lengths p1.isList p2.isList hsz (by omega)) ⟨.bl _, H, I, rfl, q⟩
def rEqTn (K : PySem.W.Frag) : L2.R2 := fun x y H Q => ∃ a b xs, x = .ref a ∧ y = .ref b ∧ SqT K H a xs ∧ SqT K H b [] ∧ xs ≠ [] ∧ Q (.bl false) H
def rNeTn (K : PySem.W.Frag) : L2.R2 := fun x y H Q => ∃ a b xs, x = .ref a ∧ y = .ref b ∧ SqT K H a xs ∧ SqT K H b [] ∧ xs ≠ [] ∧ Q (.bl true) H
theorem op_eqTn (hu : X.A.units + 64 < cLine) : L2.OpR X (compareOp .Eq) (rEqTn X.K) := by
  intro pins s σ H x y v u Q I rx ry h
  obtain ⟨a, b, xs, rfl, rfl, ha, hb, hl, q⟩ := h
  cases (show v = Value.ref a from rx)
  cases (show u = Value.ref b from ry)
  obtain ⟨us, r1, p1, _⟩ := I.tuple ha
  obtain ⟨ws, r2, p2, _⟩ := I.tuple hb
  have h1 := r1.length
  have h2 := r2.length
  have hx := List.length_pos_iff.mpr hl
  have hz : ws.toArray.size = 0 := by simp only [List.size_toArray]; simpa using h2.symm
  have e : ((List.range (min us.toArray.size ws.toArray.size)).all (fun _ => false) && us.toArray.size == ws.toArray.size) = false := by
    rw [hz]
    have : (us.toArray.size == 0) = false := by simp only [List.size_toArray, beq_eq_false_iff_ne, ne_eq]; omega
    rw [this, Bool.and_false]
  have rc := SeqAt.RcAt.tuples (A := X.A) (s := s) (e := fun _ => false) p1 p2 (by omega) (fun j j1 j2 => absurd j2 (by omega))
  rw [e] at rc
  exact PySem.EqBoolInt.of_rc rc ⟨.bl _, H, I, rfl, q⟩
theorem op_neTn (hu : X.A.units + 64 < cLine) : L2.OpR X (compareOp .NotEq) (rNeTn X.K) := by
  intro pins s σ H x y v u Q I rx ry h
  obtain ⟨a, b, xs, rfl, rfl, ha, hb, hl, q⟩ := h
  cases (show v = Value.ref a from rx)
  cases (show u = Value.ref b from ry)
  obtain ⟨us, r1, p1, _⟩ := I.tuple ha
  obtain ⟨ws, r2, p2, _⟩ := I.tuple hb
  have h1 := r1.length
  have h2 := r2.length
  have hx := List.length_pos_iff.mpr hl
  have hz : ws.toArray.size = 0 := by simp only [List.size_toArray]; simpa using h2.symm
  have e : (!((List.range (min us.toArray.size ws.toArray.size)).all (fun _ => false) && us.toArray.size == ws.toArray.size)) = true := by
    rw [hz]
    have : (us.toArray.size == 0) = false := by simp only [List.size_toArray, beq_eq_false_iff_ne, ne_eq]; omega
    rw [this, Bool.and_false]
    rfl
  have rc := SeqAt.RcNeAt.tuples (A := X.A) (s := s) (e := fun _ => false) p1 p2 (by omega) (fun j j1 j2 => absurd j2 (by omega))
  rw [e] at rc
  exact PySem.EqBoolInt.of_rcne rc ⟨.bl _, H, I, rfl, q⟩
def rEqT : L2.R2 := fun x y H Q => ∃ a c, x = .str a ∧ y = .str c ∧ Q (.bl (a == c)) H
def rNeT : L2.R2 := fun x y H Q => ∃ a c, x = .str a ∧ y = .str c ∧ Q (.bl (!(a == c))) H
theorem op_eqT : L2.OpR X (compareOp .Eq) rEqT := by
  intro pins s σ H x y v u Q I rx ry h
  obtain ⟨a, c, rfl, rfl, q⟩ := h
  obtain ⟨t1, rfl⟩ := rx
  obtain ⟨t2, rfl⟩ := ry
  exact PyProof.Rows.eq_str ⟨.bl _, H, I, rfl, q⟩
theorem op_neT : L2.OpR X (compareOp .NotEq) rNeT := by
  intro pins s σ H x y v u Q I rx ry h
  obtain ⟨a, c, rfl, rfl, q⟩ := h
  obtain ⟨t1, rfl⟩ := rx
  obtain ⟨t2, rfl⟩ := ry
  exact PyProof.Rows.ne_str ⟨.bl _, H, I, rfl, q⟩
theorem ob_eq (hu : X.A.units + 64 < cLine) : OpB X E (compareOp .Eq) opEq := op_cases fun v w H Q ⟨σ, st, φ, I, x, y, r, R, hx, hy, e, q⟩ => by
  rcases opEq_some e with ⟨ks, ls, rfl, rfl, e1⟩ | ⟨a, c, rfl, rfl, rfl⟩ | ⟨rfl, ds, es, e1, e2, hl⟩ | ⟨rfl, d, ds, rfl, rfl⟩ | e
  · obtain ⟨a, c, us, ws, g1, g2, g3, g4, g5, rfl⟩ := dctEq_rd R.ext hx hy e1
    exact ⟨_, op_eqDc hu, a, c, us, ws, true, g1, g2, g3, g4, g5, q⟩
  · exact ⟨_, op_eqT, a, c, hx.str, hy.str, q⟩
  · obtain ⟨a1, vs1, rfl, h1, k1⟩ := hx.asL R.ext e1
    obtain ⟨a2, vs2, rfl, h2, k2⟩ := hy.asL R.ext e2
    exact ⟨_, op_eqL hu, a1, a2, vs1, vs2, rfl, rfl, h1, h2, by rw [← k1.len, ← k2.len]; exact hl, q⟩
  · obtain ⟨a1, vs1, rfl, h1, k1⟩ := hx.asT R.ext rfl
    obtain ⟨a2, vs2, rfl, h2, k2⟩ := hy.asT R.ext rfl
    cases k2
    have h2' : SqT X.K H a2 [] := h2
    exact ⟨_, op_eqTn hu, a1, a2, vs1, rfl, rfl, h1, h2', (fun z => by subst z; cases k1), q⟩
  obtain ⟨p1, p2, e1, e2, s1, s2, rfl⟩ := opEq0_some e
  exact ⟨_, op_eqD hu, p1, p2, hx.dp R.ext e1, hy.dp R.ext e2, s1, s2, q⟩
theorem ob_ne (hu : X.A.units + 64 < cLine) : OpB X E (compareOp .NotEq) opNe := op_cases fun v w H Q ⟨σ, st, φ, I, x, y, r, R, hx, hy, e, q⟩ => by
  obtain ⟨b, e', rfl⟩ := Option.map_eq_some_iff.mp e
  rcases opEq_some e' with ⟨ks, ls, rfl, rfl, e1⟩ | ⟨a, c, rfl, rfl, rfl⟩ | ⟨rfl, ds, es, e1, e2, hl⟩ | ⟨rfl, d, ds, rfl, rfl⟩ | e'
  · obtain ⟨a, c, us, ws, g1, g2, g3, g4, g5, rfl⟩ := dctEq_rd R.ext hx hy e1
    exact ⟨_, op_neDc hu, a, c, us, ws, true, g1, g2, g3, g4, g5, q⟩
  · exact ⟨_, op_neT, a, c, hx.str, hy.str, q⟩
  · obtain ⟨a1, vs1, rfl, h1, k1⟩ := hx.asL R.ext e1
    obtain ⟨a2, vs2, rfl, h2, k2⟩ := hy.asL R.ext e2
    exact ⟨_, op_neL hu, a1, a2, vs1, vs2, rfl, rfl, h1, h2, by rw [← k1.len, ← k2.len]; exact hl, q⟩
  · obtain ⟨a1, vs1, rfl, h1, k1⟩ := hx.asT R.ext rfl
    obtain ⟨a2, vs2, rfl, h2, k2⟩ := hy.asT R.ext rfl
    cases k2
    have h2' : SqT X.K H a2 [] := h2
    exact ⟨_, op_neTn hu, a1, a2, vs1, rfl, rfl, h1, h2', (fun z => by subst z; cases k1), q⟩
  obtain ⟨p1, p2, e1, e2, s1, s2, rfl⟩ := opEq0_some e'
  exact ⟨_, op_neD hu, p1, p2, hx.dp R.ext e1, hy.dp R.ext e2, s1, s2, q⟩
/-- x is None, x is not None -/
def D.isNon : D → Bool
  | .non => true
  | _ => false
theorem Seen.isN {K : PySem.W.Frag} {φ : List Addr} {I H : Hp} {v : V} {d : D} (h : Seen K φ I H d v) (hv : ∀ u, d ≠ .val u) : decide (v = .non) = d.isNon := by
  cases d with
  | non => rw [h.non]; rfl
  | val u => exact absurd rfl (hv u)
  | _ =>
    rcases h with h | ⟨a, c, rfl, e, _⟩
    · cases h <;> rfl
    · rfl
def isVal : D → Bool
  | .val _ => true
  | _ => false
def opIs (x y : D) : Option Bool := if isVal x then none else match y with
  | .non => some x.isNon
  | _ => none
theorem opIs_some {x y : D} {b : Bool} (e : opIs x y = some b) : y = .non ∧ (∀ u, x ≠ .val u) ∧ b = x.isNon := by
  unfold opIs at e
  by_cases h : isVal x = true
  · rw [if_pos h] at e; cases e
  · rw [if_neg h] at e
    cases y <;> simp only [Option.some.injEq, reduceCtorEq] at e
    exact ⟨rfl, fun u z => h (by rw [z]; rfl), e.symm⟩
theorem ob_is : OpB X E (compareOp .Is) opIs := op_cases fun v w H Q ⟨σ, st, φ, I, x, y, r, R, hx, hy, e, q⟩ => by
  obtain ⟨rfl, hv, rfl⟩ := opIs_some e
  refine ⟨_, op_isN, hy.non, ?_⟩
  rw [hx.isN hv]
  exact q
end
end PM
set_option Elab.async false
set_option linter.all false
set_option maxRecDepth 100000
set_option maxHeartbeats 1200000
namespace PM
open PySem PySem.Spec L2
/-! ### tables -/
section
variable {κ : Type} [DecidableEq κ]
def dget (kvs : List (κ × D)) (k : κ) : Option D := (kvs.find? fun kv => decide (kv.1 = k)).map (·.2)
def dput (kvs : List (κ × D)) (k : κ) (d : D) : List (κ × D) :=
  if (kvs.any fun kv => decide (kv.1 = k)) = true then kvs.map (fun kv => if kv.1 = k then (kv.1, d) else kv) else kvs ++ [(k, d)]
variable {K : PySem.W.Frag} {φ : List Addr} {I : Hp}
theorem dget_rel : ∀ {kvs : List (κ × D)} {us : List (κ × V)} {k : κ}, us.map (·.1) = kvs.map (·.1) → Rvs K φ I (kvs.map (·.2)) (us.map (·.2)) → (∃ d v, dget kvs k = some d ∧ valV us k = some v ∧ Rv K φ I d v) ∨ (dget kvs k = none ∧ valV us k = none)
  | [], [], k, _, _ => .inr ⟨rfl, rfl⟩
  | [], _ :: _, _, h, _ => by cases h
  | _ :: _, [], _, h, _ => by cases h
  | (a, d) :: kvs, (b, v) :: us, k, h, hr => by
    simp only [List.map_cons, List.cons.injEq] at h hr
    obtain ⟨rfl, h⟩ := h
    cases hr with
    | cons h1 h2 =>
      by_cases e : b = k
      · exact .inl ⟨d, v, by simp [dget, List.find?_cons, e], by simp [valV, List.find?_cons, e], h1⟩
      · have e1 : dget ((b, d) :: kvs) k = dget kvs k := by simp [dget, List.find?_cons, e]
        have e2 : valV ((b, v) :: us) k = valV us k := by simp [valV, List.find?_cons, e]
        rw [e1, e2]
        exact dget_rel h h2
theorem dput_rel {kvs : List (κ × D)} {us : List (κ × V)} {k : κ} {d : D} {v : V} (h : us.map (·.1) = kvs.map (·.1)) (hr : Rvs K φ I (kvs.map (·.2)) (us.map (·.2))) (hv : Rv K φ I d v) :
    (putK us k v).map (·.1) = (dput kvs k d).map (·.1) ∧ Rvs K φ I ((dput kvs k d).map (·.2)) ((putK us k v).map (·.2)) := by
  have ha : ∀ {kvs : List (κ × D)} {us : List (κ × V)}, us.map (·.1) = kvs.map (·.1) → (us.any fun kv => decide (kv.1 = k)) = kvs.any fun kv => decide (kv.1 = k) := by
    intro kvs us h
    have e1 : (us.any fun kv => decide (kv.1 = k)) = (us.map (·.1)).any fun x => decide (x = k) := by rw [List.any_map]; rfl
    have e2 : (kvs.any fun kv => decide (kv.1 = k)) = (kvs.map (·.1)).any fun x => decide (x = k) := by rw [List.any_map]; rfl
    rw [e1, e2, h]
  unfold dput putK
  rw [ha h]
  split
  · clear ha
    rename_i hh
    clear hh
    induction kvs generalizing us with
    | nil =>
      cases us with
      | nil => exact ⟨rfl, .nil⟩
      | cons _ _ => cases h
    | cons kv kvs ih =>
      cases us with
      | nil => cases h
      | cons u us =>
        simp only [List.map_cons, List.cons.injEq] at h hr
        cases hr with
        | cons h1 h2 =>
          obtain ⟨i1, i2⟩ := ih h.2 h2
          simp only [List.map_cons]
          by_cases e : u.1 = k
          · have e' : kv.1 = k := h.1 ▸ e
            rw [if_pos e, if_pos e']
            exact ⟨by rw [i1, h.1], .cons hv i2⟩
          · have e' : ¬ kv.1 = k := h.1 ▸ e
            rw [if_neg e, if_neg e']
            exact ⟨by rw [i1, h.1], .cons h1 i2⟩
  · simp only [List.map_append, List.map_cons, List.map_nil]
    exact ⟨by rw [h], hr.append (.cons hv .nil)⟩
end
def asKey : D → Option Key
  | .int i => some (.inl i)
  | .str s => some (.inr s)
  | _ => none
def asKeys : List D → Option (List Key)
  | [] => some []
  | d :: ds => (asKey d).bind fun k => (asKeys ds).map fun ks => k :: ks
section
variable {K : PySem.W.Frag} {φ : List Addr} {I H : Hp}
theorem asKey_rv {d : D} {v : V} {k : Key} (h : Rv K φ I d v) (e : asKey d = some k) : v = kV k := by
  cases h <;> simp only [asKey, Option.some.injEq, reduceCtorEq] at e
  · subst e; rfl
  · subst e; rfl
theorem asKey_seen {d : D} {v : V} {k : Key} (h : Seen K φ I H d v) (e : asKey d = some k) : v = kV k := by
  rcases h with h | ⟨a, c, _, rfl, _⟩
  · exact asKey_rv h e
  · cases c <;> cases e
theorem asKeys_rv : ∀ {ds : List D} {vs : List V} {ks : List Key}, Rvs K φ I ds vs → asKeys ds = some ks → vs = ks.map kV
  | [], _, ks, .nil, e => by simp only [asKeys, Option.some.injEq] at e; subst e; rfl
  | d :: ds, _, ks, .cons h1 h2, e => by
    simp only [asKeys] at e
    obtain ⟨k, e1, e2⟩ := Option.bind_eq_some_iff.mp e
    obtain ⟨r, e3, rfl⟩ := Option.map_eq_some_iff.mp e2
    rw [List.map_cons, asKey_rv h1 e1, asKeys_rv h2 e3]
theorem Seen.dct {kvs : List (Key × D)} {v : V} (hx : Ex I H) (h : Seen K φ I H (.dct kvs) v) : ∃ a us, v = .ref a ∧ Rd H a (.dK us) ∧ us.map (·.1) = kvs.map (·.1) ∧ Rvs K φ I (kvs.map (·.2)) (us.map (·.2)) := by
  rcases h with h | ⟨a, c, rfl, e, o, h1, h2, h3⟩
  · cases h with
    | dct h1 h2 h3 => exact ⟨_, _, rfl, .inr ⟨_, hx _ _ h1⟩, h2, h3⟩
  · cases c <;> cases e
    cases h3 with
    | dc h3 h4 => exact ⟨a, _, rfl, .inl h1, h3, h4⟩
theorem Seen.dcT {kvs : List (List Key × D)} {v : V} (hx : Ex I H) (h : Seen K φ I H (.dcT kvs) v) : ∃ a us, v = .ref a ∧ Rd H a (.dT us) ∧ us.map (·.1) = kvs.map (·.1) ∧ Rvs K φ I (kvs.map (·.2)) (us.map (·.2)) := by
  rcases h with h | ⟨a, c, rfl, e, o, h1, h2, h3⟩
  · cases h with
    | dcT h1 h2 h3 => exact ⟨_, _, rfl, .inr ⟨_, hx _ _ h1⟩, h2, h3⟩
  · cases c <;> cases e
    cases h3 with
    | dt h3 h4 => exact ⟨a, _, rfl, .inl h1, h3, h4⟩
theorem Rvs.atI {ds : List D} {vs : List V} (h : Rvs K φ I ds vs) {i : Int} {d : D} (e : L2.atI ds i = some d) : ∃ v, L2.atI vs i = some v ∧ Rv K φ I d v := by
  unfold L2.atI at e ⊢
  rw [← h.len]
  obtain ⟨j, e1, e2⟩ := Option.bind_eq_some_iff.mp e
  rw [e1]
  exact h.get e2
end
/-- x[y] -/
def opIx : D → D → Option RV
  | .lst ds, .int i => (atI ds i).map .sh
  | .lsF ds, .int i => (atI ds i).map .sh
  | .tup ds, .int i => (atI ds i).map .sh
  | .tpF ds, .int i => (atI ds i).map .sh
  | .str z, .int i => if z.length ≤ lim then (atI z.cps.toList i).map fun c => .sh (.str ⟨#[c]⟩) else none
  | .dct kvs, k => (asKey k).bind fun k => (dget kvs k).map .sh
  | .dcT kvs, .tup ks => (asKeys ks).bind fun ks => (dget kvs ks).map .sh
  | _, _ => none
section
variable {X : Cx} {E : Ent} {W : WX} {pos : Pos} {a b c e : Expr} {ma mb mc : M RV}
theorem ix_cases {r : R2} (h : ∀ v w H Q, r v w H Q → ∃ r', IxR X r' ∧ r' v w H Q) : IxR X r := fun value slice pins s σ H x y v u Q I rx ry q hs => by
  obtain ⟨r', h1, h2⟩ := h _ _ _ _ q
  exact h1 value slice pins s σ H x y v u Q I rx ry h2 hs
theorem ix_dct (hu : X.A.units + 1 < cLine) : IxR X (fun x y H Q => ∃ a v, x = .ref a ∧ DGet H a y (some v) ∧ Q v H) := by
  intro value slice pins s σ H x y v u Q I rx ry ⟨a, z, ex, g, q⟩ hs
  subst ex
  obtain rfl : v = Value.ref a := rx
  exact PyProof.Rows.tail_any (dict_typeIs I g) PySem.F.slot_dict_getitem.lookup (d_getItem hu I g ry fun w' s3 I3 rw' => ⟨z, H, I3, rw', q⟩) hs
theorem ix_any (hu : X.A.units + 1 < cLine) : IxR X (rdO X.K E opIx) := ix_cases fun v w H Q ⟨σ, st, φ, I, x, y, r, R, hx, hy, e, q⟩ => by
  have seqT : ∀ {ds : List D} {i : Int}, asT x = some ds → y = .int i → (atI ds i).map RV.sh = some r → ∃ r', IxR X r' ∧ r' v w H Q := fun h1 h2 h3 => by
    subst h2
    obtain ⟨d, e1, rfl⟩ := Option.map_eq_some_iff.mp h3
    obtain ⟨p, vs, rfl, g1, g2⟩ := hx.asT R.ext h1
    obtain ⟨u, e2, e3⟩ := g2.atI e1
    exact ⟨_, ix_tup, p, vs, _, u, rfl, hy.int, g1, e2, q.sh R e3⟩
  have seqL : ∀ {ds : List D} {i : Int}, asL x = some ds → y = .int i → (atI ds i).map RV.sh = some r → ∃ r', IxR X r' ∧ r' v w H Q := fun h1 h2 h3 => by
    subst h2
    obtain ⟨d, e1, rfl⟩ := Option.map_eq_some_iff.mp h3
    obtain ⟨p, vs, rfl, g1, g2⟩ := hx.asL R.ext h1
    obtain ⟨u, e2, e3⟩ := g2.atI e1
    exact ⟨_, ix_list, p, vs, _, u, rfl, hy.int, g1, e2, q.sh R e3⟩
  cases x <;> try (simp [opIx] at e; done)
  · rename_i z
    cases y <;> try (simp [opIx] at e; done)
    simp only [opIx] at e
    by_cases h : z.length ≤ lim
    · rw [if_pos h] at e
      obtain ⟨c, e1, rfl⟩ := Option.map_eq_some_iff.mp e
      exact ⟨_, ix_str, z, _, c, hx.str, hy.int, Nat.le_trans h lim_le, e1, q.sh R (.str _)⟩
    · rw [if_neg h] at e
      cases e
  · cases y <;> try (simp [opIx] at e; done)
    exact seqT rfl rfl e
  · cases y <;> try (simp [opIx] at e; done)
    exact seqL rfl rfl e
  · cases y <;> try (simp [opIx] at e; done)
    exact seqL rfl rfl e
  · cases y <;> try (simp [opIx] at e; done)
    exact seqT rfl rfl e
  · rename_i kvs
    simp only [opIx] at e
    obtain ⟨k, e1, e2⟩ := Option.bind_eq_some_iff.mp e
    obtain ⟨d, e3, rfl⟩ := Option.map_eq_some_iff.mp e2
    obtain ⟨p, us, rfl, h1, h2, h3⟩ := hx.dct R.ext
    rcases dget_rel (k := k) h2 h3 with ⟨d', u, q1, q2, q3⟩ | ⟨q1, _⟩
    · rw [e3] at q1
      cases q1
      exact ⟨_, ix_dct hu, p, u, rfl, .inl ⟨us, k, h1, asKey_seen hy e1, q2.symm⟩, q.sh R q3⟩
    · rw [e3] at q1
      cases q1
  · rename_i kvs
    cases y <;> try (simp [opIx] at e; done)
    simp only [opIx] at e
    obtain ⟨k, e1, e2⟩ := Option.bind_eq_some_iff.mp e
    obtain ⟨d, e3, rfl⟩ := Option.map_eq_some_iff.mp e2
    obtain ⟨p, us, rfl, h1, h2, h3⟩ := hx.dcT R.ext
    obtain ⟨b, vs, rfl, g1, g2⟩ := hy.tup R.ext
    have ek := asKeys_rv g2 e1
    subst ek
    rcases dget_rel (k := k) h2 h3 with ⟨d', u, q1, q2, q3⟩ | ⟨q1, _⟩
    · rw [e3] at q1
      cases q1
      exact ⟨_, ix_dct hu, p, u, rfl, .inr ⟨us, k, b, h1, rfl, g1, q2.symm⟩, q.sh R q3⟩
    · rw [e3] at q1
      cases q1
theorem sr_ix (hu : X.A.units + 1 < cLine) (ha : SR X E W a ma) (hb : SR X E W b mb) (hs : PlainIx b := by exact fun _ _ => rfl) : SR X E W (.Subscript a b pos) (mOp opIx ma mb) := PEi (pe_ix (ix_any hu) (sr_bor ha) (sr_bor hb) hs) fun _ _ _ h => rd_op h
/-! ### slices -/
def cut {α : Type} (xs : List α) (lo hi : Option Int) : List α := (xs.drop (HT.sIx xs.length 0 lo)).take (HT.sIx xs.length xs.length hi - HT.sIx xs.length 0 lo)
def opSl (x : D) (lo hi : Option Int) : Option RV := match x with
  | .lst ds => some (.ow (.ls (cut ds lo hi)))
  | .lsF ds => some (.ow (.ls (cut ds lo hi)))
  | .tup ds => some (.sh (.tup (cut ds lo hi)))
  | .tpF ds => if HT.sIx ds.length 0 lo = 0 ∧ HT.sIx ds.length ds.length hi = ds.length then some (.sh (.tpF ds)) else some (.sh (.tup (cut ds lo hi)))
  | .str z => if z.length ≤ lim then some (.sh (.str (cutS z lo hi))) else none
  | _ => none
def mNo : M (Option Int) := M.pure none
def mPt (m : M RV) : M (Option Int) := m.bind fun r => match r with
  | .sh (.int i) => M.pure (some i)
  | _ => M.stuck
def mSl (a : M RV) (lo hi : M (Option Int)) : M RV := a.bor.bind fun r => lo.bind fun l => hi.bind fun h => at1 (fun x => opSl x l h) r
def rdP (K : PySem.W.Frag) (E : Ent) (W : WX) (m : M (Option Int)) : TO := fun σ H Q => ∃ st φ I, Rp K E σ H st φ I ∧ Po K E W σ (m st) H st φ I fun r H' st' φ' I' => Q r H'
abbrev SP' (X : Cx) (E : Ent) (W : WX) (e : Option Expr) (m : M (Option Int)) : Prop := PO X e (rdP X.K E W m)
theorem POi {e : Option Expr} {t t' : TO} (h : PO X e t) (k : ∀ σ H Q, t' σ H Q → t σ H Q) : PO X e t' := ⟨fun p s σ H Q I q => h.run p s σ H Q I (k _ _ _ q)⟩
theorem sp_no : SP' X E W none mNo := POi po_none fun σ H Q ⟨st, φ, I, R, p⟩ => p.pure R
theorem sp_pt (h : SR X E W a ma) : SP' X E W (some a) (mPt ma) := POi (po_some h) fun σ H Q ⟨st, φ, I, R, p⟩ => by
  refine ⟨st, φ, I, R, (Po.bind p).imp fun r H1 st1 φ1 I1 S1 R1 p1 v hv _ => ?_⟩
  cases r with
  | ow c => exact p1.elim
  | lo i => exact p1.elim
  | sh d =>
    cases d <;> try (exact p1.elim)
    cases hv
    exact ⟨_, rfl, p1.pure R1⟩
def rdL (K : PySem.W.Frag) (E : Ent) : V → Option Int → Option Int → Hp → VK → Prop := fun v lo hi H Q => ∃ σ st φ I x r, Rp K E σ H st φ I ∧ Seen K φ I H x v ∧ opSl x lo hi = some r ∧ Af K E σ H st φ I r Q
theorem Rvs.cut {K : PySem.W.Frag} {φ : List Addr} {I : Hp} {ds : List D} {vs : List V} (h : Rvs K φ I ds vs) (lo hi : Option Int) : Rvs K φ I (PM.cut ds lo hi) (cutV vs lo hi) := by
  unfold PM.cut cutV
  rw [h.len]
  exact (h.drop _).take _
theorem sl_any : SlR X (rdL X.K E) := fun pins s σ' H v0 v vl vu lo hi sl Q I0 rx hs pl pu ⟨σ, st, φ, I, x, r, R, hx, e, q⟩ => by
  have go : ∀ r', SlR X r' → r' v0 lo hi H Q → ∃ T id, typeLookup (.type T) "__getitem__" = Pure.pure (some (.builtin id)) ∧ s.TypeIs v T ∧ wpAny (model X.prog X.w) X.A (getItem v (.ref sl)) (EP X pins σ' Q) X.xe s := fun r' h q' => h pins s σ' H v0 v vl vu lo hi sl Q I0 rx hs pl pu q'
  have lists : ∀ {ds : List D}, asL x = some ds → r = .ow (.ls (PM.cut ds lo hi)) → rSlL X.K v0 lo hi H Q := fun h1 h2 => by
    subst h2
    obtain ⟨p, vs, rfl, g1, g2⟩ := hx.asL R.ext h1
    exact ⟨p, vs, rfl, g1, q.lst R (g2.cut lo hi)⟩
  cases x <;> try (simp [opSl] at e; done)
  · rename_i z
    simp only [opSl] at e
    by_cases h : z.length ≤ lim
    · rw [if_pos h] at e
      cases e
      exact go _ sl_str ⟨z, hx.str, Nat.le_trans h lim_le, q.sh R (.str _)⟩
    · rw [if_neg h] at e
      cases e
  · rename_i ds
    simp only [opSl, Option.some.injEq] at e
    subst e
    obtain ⟨p, vs, rfl, g1, g2⟩ := hx.tup R.ext
    refine go _ sl_tupA ⟨p, vs, rfl, .inl (.inl g1), fun z => ?_, fun z => q.tup R (g2.cut lo hi)⟩
    have e1 : PM.cut ds lo hi = ds := by
      unfold PM.cut
      rw [g2.len, z.1, z.2]
      simp [← g2.len]
    rw [e1] at q
    exact q.sh R (hx.elim id fun ⟨_, c, _, e, _⟩ => by cases c <;> cases e)
  · simp only [opSl, Option.some.injEq] at e
    exact go _ sl_list (lists rfl e.symm)
  · simp only [opSl, Option.some.injEq] at e
    exact go _ sl_list (lists rfl e.symm)
  · rename_i ds
    simp only [opSl] at e
    obtain ⟨p, vs, rfl, g1, g2⟩ := hx.tpF R.ext
    by_cases h : HT.sIx ds.length 0 lo = 0 ∧ HT.sIx ds.length ds.length hi = ds.length
    · rw [if_pos h] at e
      cases e
      refine go _ sl_tupA ⟨p, vs, rfl, g1, fun z => q.sh R (hx.elim id fun ⟨_, c, _, e, _⟩ => by cases c <;> cases e), fun z => absurd (by rw [← g2.len]; exact h) z⟩
    · rw [if_neg h] at e
      cases e
      refine go _ sl_tupA ⟨p, vs, rfl, g1, fun z => absurd (by rw [g2.len]; exact z) h, fun z => q.tup R (g2.cut lo hi)⟩
theorem sr_sl {lo hi : Option Expr} {ml mh : M (Option Int)} {p2 : Pos} (ha : SR X E W a ma) (hl : SP' X E W lo ml) (hh : SP' X E W hi mh) : SR X E W (.Subscript a (.Slice lo hi none p2) pos) (mSl ma ml mh) := PEi (pe_slice sl_any (sr_bor ha) hl hh) fun σ H Q ⟨st, φ, I, R, p⟩ => by
  refine ⟨st, φ, I, R, (Po.bind p).imp fun x H1 st1 φ1 I1 S1 R1 p1 v hv _ => ?_⟩
  refine ⟨st1, φ1, I1, R1, (Po.bind p1).imp fun l H2 st2 φ2 I2 S2 R2 p2 => ?_⟩
  refine ⟨st2, φ2, I2, R2, (Po.bind p2).imp fun h H3 st3 φ3 I3 S3 R3 p3 => ?_⟩
  obtain ⟨x', r, ex, e, p4⟩ := Po.at1 p3
  exact ⟨σ, st3, φ3, I3, x', r, R3, hv.seen (S2.trans S3) R3 ex, e, fun u H' I' S' R' hr hn => p4 H' φ3 I' S' R' u hr (Nw.far ((S1.trans S2).trans S3).there hn)⟩
/-! ### built-ins of one and two arguments -/
def rdC1 (K : PySem.W.Frag) (E : Ent) (g : D → Option RV) : List V → Hp → VK → Prop := fun vs H Q => ∃ v, vs = [v] ∧ rdU K E g v H Q
def rdC2 (K : PySem.W.Frag) (E : Ent) (g : D → D → Option RV) : List V → Hp → VK → Prop := fun vs H Q => ∃ v w, vs = [v, w] ∧ rdO K E g v w H Q
variable {x id T : String} {x' : Str} {p : Pos} {g : D → Option RV} {g2 : D → D → Option RV}
theorem rd_c1 {σ : L2.St} {H : Hp} {Q : VK} (h : rdR X.K E W (mUn g ma) σ H Q) : tCB (rdC1 X.K E g) (tCons (rdR X.K E W ma.bor) tNil) σ H Q := by
  obtain ⟨st, φ, I, R, p⟩ := h
  refine ⟨st, φ, I, R, (Po.bind p).imp fun x H1 st1 φ1 I1 S1 R1 p1 v hv _ => ?_⟩
  obtain ⟨x', r, ex, e, p3⟩ := Po.at1 p1
  exact ⟨v, rfl, σ, st1, φ1, I1, x', r, R1, hv.seen Stp.refl R1 ex, e, fun u H' I' S' R' hr hn => p3 H' φ1 I' S' R' u hr (Nw.far S1.there hn)⟩
theorem rd_c2 {σ : L2.St} {H : Hp} {Q : VK} (h : rdR X.K E W (mOp g2 ma mb) σ H Q) : tCB (rdC2 X.K E g2) (tCons (rdR X.K E W ma.bor) (tCons (rdR X.K E W mb.bor) tNil)) σ H Q := by
  obtain ⟨st, φ, I, R, p⟩ := h
  refine ⟨st, φ, I, R, (Po.bind p).imp fun x H1 st1 φ1 I1 S1 R1 p1 v hv _ => ?_⟩
  refine ⟨st1, φ1, I1, R1, (Po.bind p1).imp fun y H2 st2 φ2 I2 S2 R2 p2 w hw _ => ?_⟩
  obtain ⟨x', y', r, ex, ey, e, p3⟩ := Po.at2 p2
  exact ⟨v, w, rfl, σ, st2, φ2, I2, x', y', r, R2, hv.seen S2 R2 ex, hw.seen Stp.refl R2 ey, e, fun u H' I' S' R' hr hn => p3 H' φ2 I' S' R' u hr (Nw.far (S1.trans S2).there hn)⟩
theorem sr_b1 (hc : CallR X (.builtin id) (rdC1 X.K E g)) (hg : Gl X x') (hm : X.mg x' = none) (hv : bootBuiltins x' = some (.builtin id)) (ha : SR X E W a ma) (hn : x' ≠ "__name__" := by decide) (hdb : (x' == ("__debug__" : Str)) = false := by decide)
    (he : starEach [a] X.env = (false, eval a X.env) :: starEach [] X.env := by rfl) : SR X E W (.Call (.Name x' p) [a] [] pos) (mUn g ma) := PEi (pe_callB hc hg hm hv (pa_cons (sr_bor ha) pa_nil he) hn hdb he) fun _ _ _ h => rd_c1 h
theorem sr_t1 (hc : CallR X (.type T) (rdC1 X.K E g)) (hg : Gl X x') (hm : X.mg x' = none) (hv : bootBuiltins x' = some (.type T)) (ha : SR X E W a ma) (hn : x' ≠ "__name__" := by decide) (hdb : (x' == ("__debug__" : Str)) = false := by decide)
    (he : starEach [a] X.env = (false, eval a X.env) :: starEach [] X.env := by rfl) : SR X E W (.Call (.Name x' p) [a] [] pos) (mUn g ma) := PEi (pe_callTy hc hg hm hv (pa_cons (sr_bor ha) pa_nil he) hn hdb he) fun _ _ _ h => rd_c1 h
theorem sr_b2 (hc : CallR X (.builtin id) (rdC2 X.K E g2)) (hg : Gl X x') (hm : X.mg x' = none) (hv : bootBuiltins x' = some (.builtin id)) (ha : SR X E W a ma) (hb : SR X E W b mb) (hn : x' ≠ "__name__" := by decide) (hdb : (x' == ("__debug__" : Str)) = false := by decide)
    (he : starEach [a, b] X.env = (false, eval a X.env) :: starEach [b] X.env := by rfl) (he2 : starEach [b] X.env = (false, eval b X.env) :: starEach [] X.env := by rfl) (hpl : (backTo pos (starEach [b] X.env)).any (·.1) = false := by rfl) :
    SR X E W (.Call (.Name x' p) [a, b] [] pos) (mOp g2 ma mb) := PEi (pe_callB hc hg hm hv (pa_cons (sr_bor ha) (pa_cons (sr_bor hb) pa_nil he2) he) hn hdb he hpl) fun _ _ _ h => rd_c2 h
theorem call_cases {f : Value} {r : List V → Hp → VK → Prop} (h : ∀ vs H Q, r vs H Q → ∃ r', CallR X f r' ∧ r' vs H Q) : CallR X f r := fun pins s σ H xs us Q I rv q => by
  obtain ⟨r', h1, h2⟩ := h _ _ _ q
  exact h1 pins s σ H xs us Q I rv h2
/-- len -/
def opLen : D → Option RV
  | .lst ds => some (.sh (.int ds.length))
  | .lsF ds => some (.sh (.int ds.length))
  | .tup ds => some (.sh (.int ds.length))
  | .tpF ds => some (.sh (.int ds.length))
  | .str z => if z.length ≤ lim then some (.sh (.int z.length)) else none
  | .dct kvs => some (.sh (.int kvs.length))
  | _ => none
theorem call_lenS : CallR X (.builtin "len") (fun xs H Q => ∃ z, xs = [.str z] ∧ z.length ≤ sizeLine ∧ Q (.int z.length) H) := fun pins s σ H xs us Q I rv ⟨z, e, h, q⟩ => call_len pins s σ H xs us Q I rv ⟨.str z, z.length, e, ⟨h, rfl⟩, q⟩
theorem call_lenDR : CallR X (.builtin "len") (fun xs H Q => ∃ p kvs, xs = [.ref p] ∧ Rd H p (.dK kvs) ∧ Q (.int (kvs.length : Nat)) H) := fun pins s σ H xs us Q I rv ⟨p, kvs, e, h, q⟩ => by
  subst e
  obtain ⟨u, rfl, ru⟩ := vals1 rv
  cases ru
  exact d_len I h fun t s' I' => ⟨.int kvs.length, H, I', ⟨t, rfl⟩, q⟩
theorem cl_len : CallR X (.builtin "len") (rdC1 X.K E opLen) := call_cases fun vs H Q ⟨v, e0, σ, st, φ, I, x, r, R, hx, e, q⟩ => by
  subst e0
  have seqL : ∀ {ds : List D}, asL x = some ds → r = .sh (.int ds.length) → ∃ r', CallR X (.builtin "len") r' ∧ r' [v] H Q := fun h1 h2 => by
    subst h2
    obtain ⟨p, vs, rfl, g1, g2⟩ := hx.asL R.ext h1
    refine ⟨_, call_len_seq, p, vs, rfl, .inl g1, ?_⟩
    rw [← g2.len]
    exact q.sh R (.int _)
  have seqT : ∀ {ds : List D}, asT x = some ds → r = .sh (.int ds.length) → ∃ r', CallR X (.builtin "len") r' ∧ r' [v] H Q := fun h1 h2 => by
    subst h2
    obtain ⟨p, vs, rfl, g1, g2⟩ := hx.asT R.ext h1
    refine ⟨_, call_len_seq, p, vs, rfl, .inr g1, ?_⟩
    rw [← g2.len]
    exact q.sh R (.int _)
  cases x <;> try (simp [opLen] at e; done)
  · rename_i z
    simp only [opLen] at e
    by_cases h : z.length ≤ lim
    · rw [if_pos h] at e
      cases e
      exact ⟨_, call_lenS, z, by rw [hx.str], Nat.le_trans h lim_le, q.sh R (.int _)⟩
    · rw [if_neg h] at e
      cases e
  · simp only [opLen, Option.some.injEq] at e; exact seqT rfl e.symm
  · simp only [opLen, Option.some.injEq] at e; exact seqL rfl e.symm
  · simp only [opLen, Option.some.injEq] at e; exact seqL rfl e.symm
  · simp only [opLen, Option.some.injEq] at e; exact seqT rfl e.symm
  · simp only [opLen, Option.some.injEq] at e
    subst e
    obtain ⟨p, us, rfl, h1, h2, h3⟩ := hx.dct R.ext
    refine ⟨_, call_lenDR, p, us, rfl, h1, ?_⟩
    have := congrArg List.length h2
    rw [List.length_map, List.length_map] at this
    rw [this]
    exact q.sh R (.int _)
def opAbs : D → Option RV
  | .int i => some (.sh (.int (if i < 0 then -i else i)))
  | _ => none
theorem cl_abs : CallR X (.builtin "abs") (rdC1 X.K E opAbs) := call_cases fun vs H Q ⟨v, e0, σ, st, φ, I, x, r, R, hx, e, q⟩ => by
  subst e0
  cases x <;> try (simp [opAbs] at e; done)
  simp only [opAbs, Option.some.injEq] at e
  subst e
  exact ⟨_, call_abs, _, by rw [hx.int], q.sh R (.int _)⟩
def opStr : D → Option RV
  | .int i => if i.natAbs.log2 < 1920 then some (.sh (.str (toString i))) else none
  | _ => none
theorem cl_str : CallR X (.type "str") (rdC1 X.K E opStr) := call_cases fun vs H Q ⟨v, e0, σ, st, φ, I, x, r, R, hx, e, q⟩ => by
  subst e0
  cases x <;> try (simp [opStr] at e; done)
  rename_i i
  simp only [opStr] at e
  by_cases h : i.natAbs.log2 < 1920
  · rw [if_pos h] at e
    cases e
    exact ⟨_, call_str_int, _, by rw [hx.int], h, q.sh R (.str _)⟩
  · rw [if_neg h] at e
    cases e
def opInt : D → Option RV
  | .int i => some (.sh (.int i))
  | .bl b => some (.sh (.int (if b then 1 else 0)))
  | .str z => if z.length ≤ 640 then (intText? z).map fun n => .sh (.int n) else none
  | _ => none
def opList (d : D) : Option RV := ((asL d).or (asT d)).map fun ds => .ow (.ls ds)
theorem cl_list : CallR X (.type "list") (rdC1 X.K E opList) := call_cases fun vs H Q ⟨v, e0, σ, st, φ, I, x, r, R, hx, e, q⟩ => by
  subst e0
  obtain ⟨ds, e1, rfl⟩ := Option.map_eq_some_iff.mp e
  cases h : asL x with
  | some es =>
    rw [h] at e1
    cases e1
    obtain ⟨p, us, rfl, g1, g2⟩ := hx.asL R.ext h
    exact ⟨_, call_list_of, p, us, rfl, .inl g1, q.lst R g2⟩
  | none =>
    rw [h] at e1
    obtain ⟨p, us, rfl, g1, g2⟩ := hx.asT R.ext (show asT x = some ds from e1)
    exact ⟨_, call_list_of, p, us, rfl, .inr g1, q.lst R g2⟩
def opTuple (d : D) : Option RV := match d with
  | .tup ds => some (.sh (.tup ds))
  | .tpF ds => some (.sh (.tpF ds))
  | .lst ds => some (.sh (.tup ds))
  | .lsF ds => some (.sh (.tup ds))
  | _ => none
theorem cl_tuple : CallR X (.type "tuple") (rdC1 X.K E opTuple) := call_cases fun vs H Q ⟨v, e0, σ, st, φ, I, x, r, R, hx, e, q⟩ => by
  subst e0
  have lists : ∀ {ds : List D}, asL x = some ds → r = .sh (.tup ds) → ∃ r', CallR X (.type "tuple") r' ∧ r' [v] H Q := fun h1 h2 => by
    subst h2
    obtain ⟨p, us, rfl, g1, g2⟩ := hx.asL R.ext h1
    exact ⟨_, call_tuple_of, p, us, rfl, .inl ⟨g1, q.tup R g2⟩⟩
  have back : ∀ {d : D} {l : List D}, Seen X.K φ I H d v → (d = .tup l ∨ d = .tpF l) → Rv X.K φ I d v := fun hz hl => hz.elim id fun ⟨_, c, _, e, _⟩ => by rcases hl with rfl | rfl <;> cases c <;> cases e
  cases x <;> try (simp [opTuple] at e; done)
  · simp only [opTuple, Option.some.injEq] at e
    subst e
    obtain ⟨p, us, rfl, g1, g2⟩ := hx.tup R.ext
    exact ⟨_, call_tuple_of, p, us, rfl, .inr ⟨.inl (.inl g1), q.sh R (back hx (.inl rfl))⟩⟩
  · simp only [opTuple, Option.some.injEq] at e; exact lists rfl e.symm
  · simp only [opTuple, Option.some.injEq] at e; exact lists rfl e.symm
  · simp only [opTuple, Option.some.injEq] at e
    subst e
    obtain ⟨p, us, rfl, g1, g2⟩ := hx.tpF R.ext
    exact ⟨_, call_tuple_of, p, us, rfl, .inr ⟨g1, q.sh R (back hx (.inr rfl))⟩⟩
end
end PM
set_option Elab.async false
set_option linter.all false
set_option maxRecDepth 100000
set_option maxHeartbeats 1200000
namespace PM
open PySem PySem.Spec L2
/-! ### things that change -/
/-- the thing that r is, changed by f; what f gives besides -/
def upC (f : Cell → Option (D × Cell)) (r : RV) (st : State) : Option (D × State) := match r with
  | .lo i => match st.env[i]? with
    | some (.ow c) => (f c).map fun p => (p.1, { st with env := st.env.set i (.ow p.2) })
    | _ => none
  | .sh (.obj n) => match st.store[n]? with
    | some c => (f c).map fun p => (p.1, { st with store := st.store.set n p.2 })
    | none => none
  | _ => none
section
variable {K : PySem.W.Frag} {E : Ent} {σ : L2.St} {H : Hp} {st st' : State} {φ : List Addr} {I : Hp}
theorem Rp.up (R : Rp K E σ H st φ I) {f : Cell → Option (D × Cell)} (hf : f .dead = none) {r : RV} {v : V} {d : D} (hr : Rr K E σ H st φ I r v) (e : upC f r st = some (d, st')) :
    ∃ a c c' o, v = .ref a ∧ H a = some o ∧ Ho K φ I a c o ∧ f c = some (d, c') ∧ ∀ o', Ho K φ I a c' o' → Rp K E σ (upd H a o') st' φ I ∧ Stp σ H st φ I (upd H a o') st' φ I := by
  cases r with
  | ow c => cases e
  | lo i =>
    simp only [upC] at e
    cases h : st.env[i]? with
    | none => rw [h] at e; cases e
    | some s =>
      rw [h] at e
      cases s with
      | un => cases e
      | sh d => cases e
      | ow c =>
        obtain ⟨⟨d', c'⟩, e1, e2⟩ := Option.map_eq_some_iff.mp e
        cases e2
        obtain ⟨a, h1, ⟨o, g1, g2, g3⟩, h3, h4⟩ := R.ow i c h
        have hv : σ[i]? = some (some v) := hr
        rw [h1] at hv
        cases hv
        have hi : i < st.env.length := (List.getElem?_eq_some_iff.mp h).1
        have oth : ∀ {j : Nat}, j ≠ i → (st.env.set i (Slot.ow c'))[j]? = st.env[j]? := fun hj => List.getElem?_set_ne (Ne.symm hj)
        have self : (st.env.set i (Slot.ow c'))[i]? = some (Slot.ow c') := List.getElem?_set_self hi
        have own : ∀ j b, Owns (st.env.set i (Slot.ow c')) σ j b → Owns st.env σ j b := by
          rintro j b ⟨c2, q1, q2⟩
          by_cases hj : j = i
          · subst hj; exact ⟨c, h, q2⟩
          · rw [oth hj] at q1; exact ⟨c2, q1, q2⟩
        refine ⟨a, c, c', o, rfl, g1, g3, e1, fun o' ho' => ?_⟩
        have nI : ∀ b u, I b = some u → b ≠ a := fun b u q z => by rw [z, g2] at q; cases q
        refine ⟨⟨fun b u q => ?_, fun b u q n => ?_, fun b q => ?_, R.inew, R.iold, R.pre, R.fl, R.pnew, R.nd, R.len, fun j c2 b q1 q2 => ?_, fun b q => ?_, ?_, fun j d2 q => ?_, fun j c2 q => ?_, fun j k b q1 q2 => R.one j k b (own j b q1) (own k b q2)⟩,
          ⟨List.prefix_rfl, fun _ q n => absurd q n, Ex.refl _, fun b u q _ no => ?_, fun b q => ?_, fun b q n => absurd n q, own⟩⟩
        · rw [upd_ne (nI b u q)]; exact R.ext b u q
        · rw [upd_ne (show b ≠ a from fun z => by rw [z, h4] at q; cases q)]; exact R.keep b u q n
        · by_cases hb : b = a
          · rw [hb, upd_same]; simp
          · rw [upd_ne hb]; exact R.there b q
        · rcases R.cells j c2 b q1 q2 with z | ⟨u, z1, z2, z3⟩
          · exact .inl z
          · exact .inr ⟨u, by rw [upd_ne (show b ≠ a from fun z => h3 (z ▸ List.mem_of_getElem? q2))]; exact z1, z2, z3⟩
        · rw [upd_ne (show b ≠ a from fun z => h3 (z ▸ q))]; exact R.pin b q
        · show (st.env.set i _).length = _
          rw [List.length_set]; exact R.elen
        · by_cases hj : j = i
          · subst hj
            rw [show (st.env.set j (Slot.ow c'))[j]? = some (Slot.ow c') from self] at q
            cases q
          · exact R.sh j d2 (by rw [← oth hj]; exact q)
        · by_cases hj : j = i
          · subst hj
            rw [show (st.env.set j (Slot.ow c'))[j]? = some (Slot.ow c') from self] at q
            cases q
            exact ⟨a, h1, ⟨o', upd_same, g2, ho'⟩, h3, h4⟩
          · obtain ⟨b, z1, ⟨u, z2, z3, z4⟩, z5, z6⟩ := R.ow j c2 (by rw [← oth hj]; exact q)
            have hb : b ≠ a := fun z => hj (R.one j i a ⟨c2, by rw [← oth hj]; exact q, z ▸ z1⟩ ⟨c, h, h1⟩)
            exact ⟨b, z1, ⟨u, by rw [upd_ne hb]; exact z2, z3, z4⟩, z5, z6⟩
        · rw [upd_ne (show b ≠ a from fun z => no i ⟨c, h, z ▸ h1⟩)]; exact q
        · by_cases hb : b = a
          · rw [hb, upd_same]; simp
          · rw [upd_ne hb]; exact q
  | sh d0 =>
    cases d0 <;> try (cases e; done)
    rename_i n
    simp only [upC] at e
    cases h : st.store[n]? with
    | none => rw [h] at e; cases e
    | some c =>
      rw [h] at e
      obtain ⟨⟨d', c'⟩, e1, e2⟩ := Option.map_eq_some_iff.mp e
      cases e2
      have hv : Rv K φ I (.obj n) v := hr
      cases hv with
      | obj hn =>
        rename_i a
        have hc := R.cells n c a h hn
        rcases hc with rfl | ⟨o, g1, g2, g3⟩
        · rw [hf] at e1; cases e1
        · have hi : n < st.store.length := (List.getElem?_eq_some_iff.mp h).1
          have ha : a ∈ φ := List.mem_of_getElem? hn
          have nI : ∀ b u, I b = some u → b ≠ a := fun b u q z => by rw [z, g2] at q; cases q
          have no : ∀ j c2, st.env[j]? = some (Slot.ow c2) → ∀ b, σ[j]? = some (some (V.ref b)) → b ≠ a := fun j c2 q b q2 z => by
            obtain ⟨b', z1, _, z3, _⟩ := R.ow j c2 q
            rw [q2] at z1
            cases z1
            exact z3 (z ▸ ha)
          refine ⟨a, c, c', o, rfl, g1, g3, e1, fun o' ho' => ?_⟩
          refine ⟨⟨fun b u q => ?_, fun b u q nn => ?_, fun b q => ?_, R.inew, R.iold, R.pre, R.fl, R.pnew, R.nd, ?_, fun j c2 b q1 q2 => ?_, fun b q => ?_, R.elen, R.sh, fun j c2 q => ?_, R.one⟩,
            ⟨List.prefix_rfl, fun _ q n => absurd q n, Ex.refl _, fun b u q nb _ => ?_, fun b q => ?_, fun b q n => absurd n q, fun _ _ h => h⟩⟩
          · rw [upd_ne (nI b u q)]; exact R.ext b u q
          · have hb : b ≠ a := fun z => by
              subst z
              rcases R.pnew b ha with z | z
              · exact nn z
              · rw [z] at q; cases q
            rw [upd_ne hb]; exact R.keep b u q nn
          · by_cases hb : b = a
            · rw [hb, upd_same]; simp
            · rw [upd_ne hb]; exact R.there b q
          · show φ.length = (st.store.set n c').length
            rw [List.length_set]; exact R.len
          · replace q1 : (st.store.set n c')[j]? = some c2 := q1
            by_cases hj : j = n
            · subst hj
              rw [List.getElem?_set_self hi] at q1
              cases q1
              rw [hn] at q2
              cases q2
              exact .inr ⟨o', upd_same, g2, ho'⟩
            · rw [List.getElem?_set_ne (Ne.symm hj)] at q1
              rcases R.cells j c2 b q1 q2 with z | ⟨u, z1, z2, z3⟩
              · exact .inl z
              · have hb : b ≠ a := fun z => by
                  subst z
                  have e1 := (List.getElem?_eq_some_iff.mp q2)
                  have e2 := (List.getElem?_eq_some_iff.mp hn)
                  obtain ⟨l1, e1⟩ := e1
                  obtain ⟨l2, e2⟩ := e2
                  exact hj ((List.getElem_inj R.nd).mp (e1.trans e2.symm))
                exact .inr ⟨u, by rw [upd_ne hb]; exact z1, z2, z3⟩
          · by_cases hb : b = a
            · rw [hb, upd_same]; simp
            · rw [upd_ne hb]; exact R.pin b q
          · obtain ⟨b, z1, ⟨u, z2, z3, z4⟩, z5, z6⟩ := R.ow j c2 q
            exact ⟨b, z1, ⟨u, by rw [upd_ne (no j c2 q b z1)]; exact z2, z3, z4⟩, z5, z6⟩
          · rw [upd_ne (show b ≠ a from fun z => nb (z ▸ ha))]; exact q
          · by_cases hb : b = a
            · rw [hb, upd_same]; simp
            · rw [upd_ne hb]; exact q
theorem Rr.step {H' : Hp} {φ' : List Addr} {I' : Hp} {r : RV} {v : V} (h : Rr K E σ H st φ I r v) (S : Stp σ H st φ I H' st' φ' I') (hr : ∀ c, r ≠ .ow c) : Rr K E σ H' st' φ' I' r v := by
  cases r with
  | ow c => exact absurd rfl (hr c)
  | lo i => exact h
  | sh d => exact Rv.mono S.pf S.ii h
theorem bor_no {r : RV} : ∀ c, r.bor ≠ .ow c := fun c h => by cases r <;> cases h
end
/-! ### d[k] = v -/
def putC (k d : D) : Cell → Option (D × Cell)
  | .dc kvs => if kvs.length < lim then (asKey k).map fun k => (.non, .dc (dput kvs k d)) else none
  | .dt kvs => if kvs.length < lim then (match k with
    | .tup ks => (asKeys ks).map fun k => (.non, .dt (dput kvs k d))
    | _ => none) else none
  | _ => none
def mPut (a k v : M RV) : MS := v.frz.then fun d => (a.bind fun r => M.pure r.bor).then fun r => k.frz.then fun kd st => match upC (putC kd d) r.bor st with
  | some (_, st') => .nx st'
  | none => .stuck
section
variable {X : Cx} {E : Ent} {W : WX} {pos pos' : Pos} {a b c e : Expr} {ma mb mc : M RV}
theorem ss_put (hu : X.A.units + 1 < cLine) (ho : SR X E W a ma) (hi : SR X E W b mb) (hv : SR X E W c mc) (hs : swapsWith c (some (.Subscript a b pos')) pos.line X.env = pure false := by rfl) :
    SS X E W (.Assign [.Subscript a b pos'] c pos) (mPut ma mb mc) := PSi (ps_dput hu (sr_bor ho) (se_frz hi) (se_frz hv) hs) fun D σ H ⟨st, φ, I, R, p⟩ => by
  refine ⟨st, φ, I, R, (Ps.then p).imp fun d H1 st1 φ1 I1 S1 R1 p1 v hv => ?_⟩
  refine ⟨st1, φ1, I1, R1, (Ps.then p1).imp fun r H2 st2 φ2 I2 S2 R2 p2 u hu hn => ?_⟩
  refine ⟨st2, φ2, I2, R2, (Ps.then p2).imp fun k H3 st3 φ3 I3 S3 R3 p3 w hw => ?_⟩
  cases e : upC (putC k d) r.bor st3 with
  | none => rw [e] at p3; exact p3.elim
  | some q =>
    obtain ⟨d', st4⟩ := q
    rw [e] at p3
    have hu2 : Rr X.K E σ H2 st2 φ2 I2 r.bor u := by
      cases r with
      | ow c =>
        -- a new thing is not stored into
        exact absurd e (by simp [upC, RV.bor]; cases c <;> simp [Cell.frz])
      | sh d => exact hu
      | lo i => exact hu
    have hr3 : Rr X.K E σ H3 st3 φ3 I3 r.bor u := hu2.step S3 bor_no
    have hd3 := hv.mono (S2.trans S3).pf (S2.trans S3).ii
    obtain ⟨x, cc, c', o, rfl, g1, g2, g3, g4⟩ := R3.up (f := putC k d) rfl hr3 e
    cases g2 with
    | ls _ => cases g3
    | ins _ _ => cases g3
    | tab _ _ => cases g3
    | dc z1 z2 =>
      rename_i kvs us
      simp only [putC] at g3
      by_cases hz : kvs.length < lim
      · rw [if_pos hz] at g3
        obtain ⟨k', e1, e2⟩ := Option.map_eq_some_iff.mp g3
        cases e2
        obtain ⟨y1, y2⟩ := dput_rel (k := k') z1 z2 hd3
        obtain ⟨R4, S4⟩ := g4 _ (.dc y1 y2)
        have hl : us.length = kvs.length := by have := congrArg List.length z1; rwa [List.length_map, List.length_map] at this
        refine ⟨x, _, rfl, .inl ⟨us, k', g1, asKey_rv hw e1, by rw [hl]; exact Nat.lt_trans hz lim_lt, rfl⟩, p3 _ _ _ _ Grow.refl R4⟩
      · rw [if_neg hz] at g3
        cases g3
    | dt z1 z2 =>
      rename_i kvs us
      simp only [putC] at g3
      by_cases hz : kvs.length < lim
      · rw [if_pos hz] at g3
        cases k <;> try (cases g3; done)
        rename_i ks
        obtain ⟨k', e1, e2⟩ := Option.map_eq_some_iff.mp g3
        cases e2
        obtain ⟨y1, y2⟩ := dput_rel (k := k') z1 z2 hd3
        obtain ⟨R4, S4⟩ := g4 _ (.dt y1 y2)
        have hl : us.length = kvs.length := by have := congrArg List.length z1; rwa [List.length_map, List.length_map] at this
        cases hw with
        | tup q1 q2 =>
          have ek := asKeys_rv q2 e1
          subst ek
          exact ⟨x, _, rfl, .inr ⟨us, k', _, g1, rfl, R3.ext _ _ q1, by rw [hl]; exact Nat.lt_trans hz lim_lt, rfl⟩, p3 _ _ _ _ Grow.refl R4⟩
      · rw [if_neg hz] at g3
        cases g3
end
end PM
set_option Elab.async false
set_option linter.all false
set_option maxRecDepth 100000
set_option maxHeartbeats 1200000
namespace PM
open PySem PySem.Spec L2
/-! ### what a loop walks -/
def asSeq (d : D) : Option (List D) := (asL d).or (asT d)
def keyD : Key → D
  | .inl i => .int i
  | .inr s => .str s
def asIt : D → Option (List D)
  | .dct kvs => some (kvs.map fun kv => keyD kv.1)
  | d => asSeq d
def mIt (a : M RV) : M (List D) := a.frz.bind fun d => M.ofO (asIt d)
def asI : RV → Option Int
  | .sh (.int i) => some i
  | _ => none
def rng (lo : Int) (n : Nat) : List D := (List.range n).map fun (k : Nat) => D.int (lo + (k : Int))
def small (i : Int) : Bool := decide (i.natAbs < 4611686018427387904)
def mRg1 (a : M RV) : M (List D) := a.bind fun r => match asI r with
  | some i => if small i then M.pure (rng 0 i.toNat) else M.stuck
  | none => M.stuck
section
variable {K : PySem.W.Frag} {E : Ent} {φ : List Addr} {I : Hp}
theorem walk_l {a : Addr} {vs : List V} {ds : List D} (h : SqL K I a vs) (r : Rvs K φ I ds vs) : Walk K E (Itl K a) ds φ I := fun σ H st φ' I' R g i => by
  have hs : SqL K H a vs := sqL_mono R.ext (sqL_mono g.ii h)
  refine ⟨fun d e => ?_, fun hi => ⟨vs, hs, by rw [← r.len]; exact hi⟩⟩
  obtain ⟨v, e1, e2⟩ := r.get e
  refine ⟨⟨vs, v, hs, e1⟩, fun x H' ⟨e3, e4⟩ => ?_⟩
  subst e3
  have e5 := e4 vs hs
  rw [e1] at e5
  cases e5
  exact ⟨I', R, Stp.refl, e2.mono g.pf g.ii⟩
theorem walk_t {a : Addr} {vs : List V} {ds : List D} (h : SqT K I a vs) (r : Rvs K φ I ds vs) : Walk K E (Itt K a) ds φ I := fun σ H st φ' I' R g i => by
  have hs : SqT K H a vs := sqT_mono R.ext (sqT_mono g.ii h)
  refine ⟨fun d e => ?_, fun hi => ⟨vs, hs, by rw [← r.len]; exact hi⟩⟩
  obtain ⟨v, e1, e2⟩ := r.get e
  refine ⟨⟨vs, v, hs, e1⟩, fun x H' ⟨e3, e4⟩ => ?_⟩
  subst e3
  have e5 := e4 vs hs
  rw [e1] at e5
  cases e5
  exact ⟨I', R, Stp.refl, e2.mono g.pf g.ii⟩
theorem walk_k {a : Addr} {us : List (Key × V)} {kvs : List (Key × D)} {od : Obj} (h : I a = some (.frz od (.dK us))) (e : us.map (·.1) = kvs.map (·.1)) : Walk K E (Itk a od us) (kvs.map fun kv => keyD kv.1) φ I := fun σ H st φ' I' R g i => by
  have hs : H a = some (.frz od (.dK us)) := R.ext _ _ (g.ii _ _ h)
  have hl : us.length = kvs.length := by
    have := congrArg List.length e
    simpa using this
  refine ⟨fun d e2 => ?_, fun hi => ⟨hs, by rw [List.length_map] at hi; omega⟩⟩
  rw [List.getElem?_map] at e2
  obtain ⟨kv, e3, rfl⟩ := Option.map_eq_some_iff.mp e2
  have e4 : (us.map (·.1))[i]? = some kv.1 := by rw [e, List.getElem?_map, e3]; rfl
  rw [List.getElem?_map] at e4
  obtain ⟨u, e5, e6⟩ := Option.map_eq_some_iff.mp e4
  refine ⟨⟨hs, (List.getElem?_eq_some_iff.mp e5).1⟩, fun x H' ⟨e7, k, v, e8, e9⟩ => ?_⟩
  subst e7
  rw [e5] at e8
  cases e8
  subst e9
  refine ⟨I', R, Stp.refl, ?_⟩
  simp only at e6
  rw [e6]
  cases kv.1 with
  | inl i => exact .int _
  | inr z => exact .str _
theorem walk_r (lo : Int) (n : Nat) : Walk K E (Itr lo n) (rng lo n) φ I := fun σ H st φ' I' R g i => by
  have hl : (rng lo n).length = n := by unfold rng; simp
  refine ⟨fun d e => ?_, fun hi => by rw [hl] at hi; exact hi⟩
  have hi : i < n := by rw [← hl]; exact (List.getElem?_eq_some_iff.mp e).1
  have e2 : d = .int (lo + (i : Int)) := by
    unfold rng at e
    rw [List.getElem?_map, List.getElem?_range hi] at e
    exact (Option.some.inj e).symm
  subst e2
  refine ⟨hi, fun x H' ⟨e3, e4⟩ => ?_⟩
  subst e3
  subst e4
  exact ⟨I', R, Stp.refl, .int _⟩
end
section
variable {X : Cx} {E : Ent} {W : WX} {pos p : Pos} {tg a b c e : Expr} {ma mb mc : M RV}
theorem si_seq (h : SR X E W a ma) : SI X E W tg a (mIt ma) := ⟨fun pins s σ H R I0 h0 => by
  obtain ⟨st, φ, I, Rr, p⟩ := h0
  unfold mIt at p
  have p1 := Po.bind p
  cases e0 : ma.frz st with
  | stuck => rw [e0] at p1; exact p1.elim
  | exc c st1 =>
    rw [e0] at p1
    refine (pi_list (se_frz h)).run pins s σ H R I0 ⟨st, φ, I, Rr, ?_⟩
    rw [e0]
    exact p1
  | ok d st1 =>
    rw [e0] at p1
    by_cases hd : ∃ kvs, d = .dct kvs
    · obtain ⟨kvs, rfl⟩ := hd
      refine (pi_keys (se_frz h)).run pins s σ H R I0 ⟨st, φ, I, Rr, ?_⟩
      rw [e0]
      intro H1 φ1 I1 S1 R1 v hv
      obtain ⟨es, e2, q2⟩ := Po.ofO (p1 H1 φ1 I1 S1 R1)
      cases e2
      cases hv with
      | dct g1 g2 g3 => exact ⟨_, _, rfl, .inl ⟨_, R1.ext _ _ g1, q2 H1 φ1 I1 Stp.refl R1 _ (walk_k g1 g2)⟩⟩
    have hd2 : asIt d = asSeq d := by
      cases d <;> first | rfl | exact absurd ⟨_, rfl⟩ hd
    cases e1 : asL d with
    | some ds =>
      refine (pi_list (se_frz h)).run pins s σ H R I0 ⟨st, φ, I, Rr, ?_⟩
      rw [e0]
      intro H1 φ1 I1 S1 R1 v hv
      obtain ⟨es, e2, q2⟩ := Po.ofO (p1 H1 φ1 I1 S1 R1)
      rw [hd2] at e2
      unfold asSeq at e2
      rw [e1] at e2
      cases e2
      obtain ⟨x, vs, rfl, g1, g2⟩ := Seen.asL (Ex.refl I1) (Seen.rv hv) e1
      exact ⟨x, rfl, ⟨vs, sqL_mono R1.ext g1⟩, q2 H1 φ1 I1 Stp.refl R1 _ (walk_l g1 g2)⟩
    | none =>
      refine (pi_tup (se_frz h)).run pins s σ H R I0 ⟨st, φ, I, Rr, ?_⟩
      rw [e0]
      intro H1 φ1 I1 S1 R1 v hv
      obtain ⟨es, e2, q2⟩ := Po.ofO (p1 H1 φ1 I1 S1 R1)
      rw [hd2] at e2
      unfold asSeq at e2
      rw [e1] at e2
      obtain ⟨x, vs, rfl, g1, g2⟩ := Seen.asT (Ex.refl I1) (Seen.rv hv) (show asT d = some es from e2)
      exact ⟨x, rfl, ⟨vs, sqT_mono R1.ext g1⟩, q2 H1 φ1 I1 Stp.refl R1 _ (walk_t g1 g2)⟩⟩
/-! ### d.items() -/
def pairI (kvs : List (Key × D)) : List D := kvs.map fun kv => .tup [keyD kv.1, kv.2]
def mItI (a : M RV) : M (List D) := a.frz.bind fun d => match d with
  | .dct kvs => M.pure (pairI kvs)
  | _ => M.stuck
theorem asI_r {K : PySem.W.Frag} {σ : L2.St} {H : Hp} {st : State} {φ : List Addr} {I : Hp} {r : RV} {v : V} {i : Int} (h : Rr K E σ H st φ I r v) (e : asI r = some i) : v = .int i := by
  cases r with
  | ow c => cases e
  | lo i => cases e
  | sh d =>
    cases d <;> try (cases e; done)
    cases e
    cases h
    rfl
theorem small_of {i : Int} (h : small i = true) : -(2 ^ 62) ≤ i ∧ i < 2 ^ 62 := by
  have := of_decide_eq_true h
  omega
theorem si_rg1 (hg : Gl X "range") (hm : X.mg "range" = none) (ha : SR X E W a ma) (hs : starEach [a] X.env = [(false, eval a X.env)] := by rfl) : SI X E W tg (.Call (.Name "range" p) [a] [] pos) (mRg1 ma) := PIi (pi_range1 hg hm (pa_cons ha pa_nil hs) hs) fun σ H R ⟨st, φ, I, Rr, p⟩ => by
  refine ⟨st, φ, I, Rr, (Po.bind p).imp fun r H1 st1 φ1 I1 S1 R1 p1 v hv _ => ?_⟩
  cases e : asI r with
  | none => rw [e] at p1; exact p1.elim
  | some i =>
    rw [e] at p1
    simp only at p1
    by_cases h : small i = true
    · rw [if_pos h] at p1
      obtain ⟨h1, h2⟩ := small_of h
      refine ⟨i, by rw [asI_r hv e], h1, h2, p1.pure R1 _ (walk_r 0 _)⟩
    · rw [if_neg h] at p1
      exact p1.elim
/-! ### a, b = x, y -/
def isLo : RV → Bool
  | .lo _ => true
  | _ => false
def mPar (i j : Nat) (a b : M RV) : MS := a.fix.then fun r => b.fix.then fun s st => if isLo s then .stuck else .nx { st with env := (st.env.set i r.slot).set j s.slot }
theorem Rr.keep {K : PySem.W.Frag} {σ : L2.St} {H H' : Hp} {st st' : State} {φ φ' : List Addr} {I I' : Hp} {r : RV} {v : V} (h : Rr K E σ H st φ I r v) (S : Stp σ H st φ I H' st' φ' I') : Rr K E σ H' st' φ' I' r v := by
  cases r with
  | sh d => exact Rv.mono S.pf S.ii h
  | lo i => exact h
  | ow c =>
    obtain ⟨a, rfl, ⟨o, g1, g2, g3⟩, h2, h3, h4⟩ := h
    refine ⟨a, rfl, ⟨o, S.fr a o g1 h2 h4, ?_, g3.mono S.pf S.ii⟩, fun z => ?_, h3, fun i z => h4 i (S.ow i a z)⟩
    · cases q : I' a with
      | none => rfl
      | some u =>
        rcases S.inf a (by rw [q]; simp) g2 with z | z | ⟨i, z⟩
        · rw [g1] at z; cases z
        · exact absurd z h2
        · exact absurd z (h4 i)
    · have := S.nf a z h2
      rw [g1] at this
      cases this
theorem ss_par (i j : Nat) {x y : Str} {px py pt : Pos} {kt k2 pt2} (hc : X.calm = true) (hN : X.N.Nodup) (ha : SR X E W a ma) (hb : SR X E W b mb) (hi : X.N[i]? = some x := by rfl) (hj : X.N[j]? = some y := by rfl) (hij : i ≠ j := by decide)
    (hx : X.env.scope.names.lookup x = some .local := by rfl) (hy : X.env.scope.names.lookup y = some .local := by rfl) (he : starEach [a, b] X.env = (false, eval a X.env) :: starEach [b] X.env := by rfl) (he2 : starEach [b] X.env = (false, eval b X.env) :: starEach [] X.env := by rfl)
    (hw : swappedStores [.Tuple [.Name x px, .Name y py] kt pt] (.Tuple [a, b] k2 pt2) X.env = Pure.pure (some [x, y]) := by rfl)
    (hs : swapsWithSole [.Tuple [.Name x px, .Name y py] kt pt] (.Tuple [a, b] k2 pt2) pos.line X.env = Pure.pure false := by rfl) :
    SS X E W (.Assign [.Tuple [.Name x px, .Name y py] kt pt] (.Tuple [a, b] k2 pt2) pos) (mPar i j ma mb) := PSi (ps_par hc hN hi hj hij hx hy (pa_cons (sr_fix ha) (pa_cons (sr_fix hb) pa_nil he2) he) hw hs) fun D σ H ⟨st, φ, I, R, p⟩ => by
  refine ⟨st, φ, I, R, (Ps.then p).imp fun r H1 st1 φ1 I1 S1 R1 p1 v hv hn1 => ?_⟩
  refine ⟨st1, φ1, I1, R1, (Ps.then p1).imp fun s H2 st2 φ2 I2 S2 R2 p2 w hw hn2 => ?_⟩
  refine ⟨v, w, rfl, ?_⟩
  have hv2 := hv.keep S2
  have R3 := R2.setR (i := i) hv2
  by_cases hlo : isLo s = true
  · rw [if_pos hlo] at p2
    exact p2.elim
  rw [if_neg hlo] at p2
  refine p2 _ H2 φ2 I2 Grow.refl (R3.setR (r := s) (i := j) ?_)
  cases s with
  | sh d => exact hw
  | ow c =>
    obtain ⟨a2, rfl, h1, h2, h3, h4⟩ := hw
    refine ⟨a2, rfl, h1, h2, h3, ?_⟩
    rintro k ⟨c', q1, q2⟩
    by_cases hk : k = i
    · subst hk
      replace q1 : (st2.env.set k r.slot)[k]? = some (Slot.ow c') := q1
      have hl : k < st2.env.length := by
        have := (List.getElem?_eq_some_iff.mp q1).1
        rwa [List.length_set] at this
      rw [List.getElem?_set_self hl] at q1
      rw [List.getElem?_set_self (by rw [← R2.elen]; exact hl)] at q2
      cases r with
      | sh d => cases q1
      | lo i => cases q1
      | ow c0 =>
        simp only [Option.some.injEq] at q2
        subst q2
        obtain ⟨a1, e1, ⟨o, g1, _⟩, _, _, g4⟩ := hv
        cases e1
        have z := hn2 _ _ rfl rfl
        rw [g1] at z
        cases z
    · replace q1 : (st2.env.set i r.slot)[k]? = some (Slot.ow c') := q1
      rw [List.getElem?_set_ne (Ne.symm hk)] at q1 q2
      exact h4 k ⟨c', q1, q2⟩
  | lo k => exact absurd rfl hlo
end
end PM
set_option Elab.async false
set_option linter.all false
set_option maxRecDepth 100000
set_option maxHeartbeats 1200000
namespace PM
open PySem PySem.Spec L2
/-! ### comprehensions -/
def wipeE (env : List Slot) : List Nat → List Slot
  | [] => env
  | v :: vs => (wipeE env vs).set v .un
def State.wipe (st : State) (own : List Nat) : State := { st with env := wipeE st.env own }
def mYes : M Bool := M.pure true
def mCompL (own : List Nat) (g : D → State → Option State) (t : M Bool) (e : M RV) : List D → List D → M (List D)
  | [], acc => M.pure acc
  | d :: ds, acc => fun st => match g d (st.wipe own) with
    | none => .stuck
    | some st1 => match t st1 with
      | .ok true st2 => match e.frz st2 with
        | .ok x st3 => if acc.length < lim then mCompL own g t e ds (acc ++ [x]) (st3.wipe own) else .stuck
        | _ => .stuck
      | .ok false st2 => mCompL own g t e ds acc (st2.wipe own)
      | _ => .stuck
def mComp (own : List Nat) (it : M (List D)) (g : D → State → Option State) (t : M Bool) (e : M RV) : M RV := it.bind fun ds st => match mCompL own g t e ds [] (st.wipe own) with
  | .ok xs st' => .ok (.ow (.ls xs)) st'
  | _ => .stuck
section
theorem wipeE_len (env : List Slot) : ∀ vs, (wipeE env vs).length = env.length
  | [] => rfl
  | v :: vs => by unfold wipeE; rw [List.length_set, wipeE_len env vs]
theorem wipeE_some {env : List Slot} {i : Nat} {s : Slot} : ∀ {vs : List Nat}, (wipeE env vs)[i]? = some s → s = .un ∨ (env[i]? = some s ∧ i ∉ vs)
  | [], h => .inr ⟨h, by simp⟩
  | v :: vs, h => by
    unfold wipeE at h
    by_cases hv : v = i
    · subst hv
      by_cases hl : v < (wipeE env vs).length
      · rw [List.getElem?_set_self hl] at h; cases h; exact .inl rfl
      · rw [List.getElem?_eq_none (by simpa using hl)] at h; cases h
    · rw [List.getElem?_set_ne hv] at h
      rcases wipeE_some h with z | ⟨z1, z2⟩
      · exact .inl z
      · exact .inr ⟨z1, by simp only [List.mem_cons, not_or]; exact ⟨fun e => hv e.symm, z2⟩⟩
theorem wipe_out {σ : L2.St} {i : Nat} : ∀ {vs : List Nat}, i ∉ vs → (L2.wipe σ vs)[i]? = σ[i]?
  | [], _ => rfl
  | v :: vs, h => by
    simp only [List.mem_cons, not_or] at h
    unfold L2.wipe
    rw [List.getElem?_set_ne (fun e => h.1 e.symm)]
    exact wipe_out h.2
theorem wipe_len (σ : L2.St) : ∀ vs, (L2.wipe σ vs).length = σ.length
  | [] => rfl
  | v :: vs => by unfold L2.wipe; rw [List.length_set, wipe_len σ vs]
theorem wipe_ext {σ σ' : L2.St} : ∀ {vs : List Nat}, (∀ i, i ∉ vs → σ'[i]? = σ[i]?) → σ'.length = σ.length → L2.wipe σ' vs = L2.wipe σ vs := by
  intro vs h hl
  apply List.ext_getElem?
  intro i
  by_cases hi : i ∈ vs
  · have aux : ∀ (τ : L2.St) (vs : List Nat), i ∈ vs → (L2.wipe τ vs)[i]? = if i < τ.length then some none else none := by
      intro τ vs
      induction vs with
      | nil => intro h; cases h
      | cons v vs ih =>
        intro h
        unfold L2.wipe
        by_cases hv : v = i
        · subst hv
          by_cases hl : v < τ.length
          · rw [List.getElem?_set_self (by rw [wipe_len]; exact hl), if_pos hl]
          · rw [List.getElem?_eq_none (by rw [List.length_set, wipe_len]; omega), if_neg hl]
        · rw [List.getElem?_set_ne hv]
          exact ih ((List.mem_cons.mp h).resolve_left fun e => hv e.symm)
    rw [aux σ' vs hi, aux σ vs hi, hl]
  · rw [wipe_out hi, wipe_out hi, h i hi]
variable {K : PySem.W.Frag} {E : Ent} {σ : L2.St} {H H' : Hp} {st st' : State} {φ φ' : List Addr} {I I' : Hp} {own : List Nat}
theorem wipe_owns {i : Nat} {a : Addr} (h : Owns (wipeE st.env own) (L2.wipe σ own) i a) : Owns st.env σ i a := by
  obtain ⟨c, h1, h2⟩ := h
  rcases wipeE_some h1 with z | ⟨z1, z2⟩
  · cases z
  · rw [wipe_out z2] at h2
    exact ⟨c, z1, h2⟩
theorem Rp.wipe (R : Rp K E σ H st φ I) : Rp K E (L2.wipe σ own) H (st.wipe own) φ I :=
  ⟨R.ext, R.keep, R.there, R.inew, R.iold, R.pre, R.fl, R.pnew, R.nd, R.len, R.cells, R.pin, by show (wipeE st.env own).length = _; rw [wipeE_len, wipe_len]; exact R.elen, fun i d h => by
    rcases wipeE_some h with z | ⟨z1, z2⟩
    · cases z
    · rw [wipe_out z2]; exact R.sh i d z1, fun i c h => by
    rcases wipeE_some h with z | ⟨z1, z2⟩
    · cases z
    · rw [wipe_out z2]; exact R.ow i c z1, fun i j a h1 h2 => R.one i j a (wipe_owns h1) (wipe_owns h2)⟩
/-- back from the block's slots -/
theorem Rp.unwipe (R : Rp K E (L2.wipe σ own) H (st.wipe own) φ I) : Rp K E σ H (st.wipe own) φ I := by
  have back : ∀ i a, Owns (st.wipe own).env σ i a → Owns (st.wipe own).env (L2.wipe σ own) i a := fun i a ⟨c, h1, h2⟩ => by
    rcases wipeE_some (show (wipeE st.env own)[i]? = _ from h1) with z | ⟨z1, z2⟩
    · cases z
    · exact ⟨c, h1, by rw [wipe_out z2]; exact h2⟩
  refine ⟨R.ext, R.keep, R.there, R.inew, R.iold, R.pre, R.fl, R.pnew, R.nd, R.len, R.cells, R.pin, R.elen.trans (wipe_len _ _), fun i d h => ?_, fun i c h => ?_, fun i j a h1 h2 => R.one i j a (back _ _ h1) (back _ _ h2)⟩
  · rcases wipeE_some (show (wipeE st.env own)[i]? = _ from h) with z | ⟨z1, z2⟩
    · cases z
    · obtain ⟨v, h1, h2⟩ := R.sh i d h
      rw [wipe_out z2] at h1
      exact ⟨v, h1, h2⟩
  · rcases wipeE_some (show (wipeE st.env own)[i]? = _ from h) with z | ⟨z1, z2⟩
    · cases z
    · obtain ⟨a, h1, h2⟩ := R.ow i c h
      rw [wipe_out z2] at h1
      exact ⟨a, h1, h2⟩
/-- what a block's turn does, seen from outside: nothing but the things, what is shared and the frame's own may have changed -/
structure Bst (σ : L2.St) (H : Hp) (st : State) (φ : List Addr) (I : Hp) (H' : Hp) (φ' : List Addr) (I' : Hp) : Prop where
  pf : φ <+: φ'
  nf : ∀ a ∈ φ', a ∉ φ → H a = none
  ii : Ex I I'
  fr : ∀ a o, H a = some o → a ∉ φ → (∀ i, ¬ Owns st.env σ i a) → H' a = some o
  there : ∀ a, H a ≠ none → H' a ≠ none
  inf : ∀ a, I' a ≠ none → I a = none → H a = none ∨ a ∈ φ ∨ ∃ i, Owns st.env σ i a
theorem Stp.bst (S : Stp σ H st φ I H' st' φ' I') : Bst σ H st φ I H' φ' I' := ⟨S.pf, S.nf, S.ii, S.fr, S.there, S.inf⟩
theorem Bst.trans {H1 H2 : Hp} {st1 : State} {σ1 : L2.St} {p1 p2 : List Addr} {I1 I2 : Hp} (a : Bst σ H st φ I H1 p1 I1) (ho : ∀ i x, Owns st1.env σ1 i x → ∃ j, Owns st.env σ j x) (b : Bst σ1 H1 st1 p1 I1 H2 p2 I2) : Bst σ H st φ I H2 p2 I2 where
  pf := a.pf.trans b.pf
  nf := fun x hx hn => by
    by_cases h : x ∈ p1
    · exact a.nf x h hn
    · cases q : H x with
      | none => rfl
      | some o => exact absurd (b.nf x hx h) (a.there x (by rw [q]; simp))
  ii := a.ii.trans b.ii
  fr := fun x o e hn hno => by
    refine b.fr x o (a.fr x o e hn hno) (fun h => ?_) fun i h => ?_
    · have := a.nf x h hn
      rw [e] at this
      cases this
    · obtain ⟨j, q⟩ := ho i x h
      exact hno j q
  there := fun x h => b.there x (a.there x h)
  inf := fun x h hn => by
    cases q : I1 x with
    | some o => exact a.inf x (by rw [q]; simp) hn
    | none =>
      rcases b.inf x h q with z | z | ⟨i, z⟩
      · left
        cases q : H x with
        | none => rfl
        | some o => exact absurd z (a.there x (by rw [q]; simp))
      · by_cases hm : x ∈ φ
        · exact .inr (.inl hm)
        · exact .inl (a.nf x z hm)
      · exact .inr (.inr (ho i x z))
/-- nobody's thing stays -/
theorem own_keep {a : Addr} {c : Cell} (h : CellAt K φ I H a c) (h2 : a ∉ φ) (h4 : ∀ i, ¬ Owns st.env σ i a) (S : Bst σ H st φ I H' φ' I') : CellAt K φ' I' H' a c ∧ a ∉ φ' := by
  obtain ⟨o, g1, g2, g3⟩ := h
  refine ⟨⟨o, S.fr a o g1 h2 h4, ?_, g3.mono S.pf S.ii⟩, fun z => ?_⟩
  · cases q : I' a with
    | none => rfl
    | some u =>
      rcases S.inf a (by rw [q]; simp) g2 with z | z | ⟨i, z⟩
      · rw [g1] at z; cases z
      · exact absurd z h2
      · exact absurd z (h4 i)
  · have := S.nf a z h2
    rw [g1] at this
    cases this
end
/-- no exception is let out -/
def WF : WX := fun _ _ _ _ => False
theorem takesF {X : Cx} : Takes X WF := fun u s' h => by
  obtain ⟨a, B, sI, pins, σ, H, cls, d, e, I, nb, up, sky, na, os, ag, w⟩ := h
  exact w.elim
section
variable {X : Cx} {E : Ent} {W : WX} {pos : Pos}
theorem PTsi {e : List Expr} {t t' : TT} (h : PTs X e t) (k : ∀ σ H Q, t' σ H Q → t σ H Q) : PTs X e t' := ⟨fun p s σ H Q I q => h.run p s σ H Q I (k _ _ _ q)⟩
theorem sts_nil : PTs X [] (rdT X.K E W mYes) := PTsi pts_nil fun σ H Q ⟨st, φ, I, R, p⟩ => p.pure R
/-- the run of a comprehension, where its items are at hand -/
theorem rd_comp {J : It} {g : D → State → Option State} {t : M Bool} {e : M RV} {own ts : List Nat} {σ : L2.St} {H1 : Hp} {st1 : State} {φ1 : List Addr} {I1 : Hp} {ds : List D} {Q : VK} (hts : ∀ i ∈ ts, i ∈ own) (R1 : Rp X.K E σ H1 st1 φ1 I1) (hJ : Walk X.K E J ds φ1 I1)
    (p : ∃ xs st', mCompL own g t e ds [] (st1.wipe own) = .ok xs st' ∧ ∀ v H' φ' I', Stp σ H1 st1 φ1 I1 H' st' φ' I' → Rp X.K E σ H' st' φ' I' → Rr X.K E σ H' st' φ' I' (.ow (.ls xs)) v → (∀ a, v = .ref a → H1 a = none) → Q v H') :
    ∀ D, H1 D = none → ∃ Wv : Nat → Nat → Hp → Prop, (∃ m, Wv 0 m (upd H1 D (.lst []))) ∧ ∀ i m H, Wv i m H →
      (J.stop i H ∧ Q (.ref D) H) ∨ (J.go i H ∧ ∃ Nx : Hp → Prop, (∀ H', Nx H' → ∃ m', m' < m ∧ Wv (i + 1) m' H') ∧ ∀ x H', J.yld i H x H' → rdG X.K E ts g x (L2.wipe σ own) H' fun σ2 H2 => L2.wipe σ2 own = L2.wipe σ own ∧ rdT X.K E WF t σ2 H2 fun b H3 =>
        if b = true then rdE X.K E WF e.frz σ2 H3 fun y H4 => ∃ acc, H4 D = some (.lst acc) ∧ acc.length < sizeLine ∧ Nx (upd H4 D (.lst (acc ++ [y]))) else Nx H3) := by
  intro Da hDa
  obtain ⟨xs, st', e0, fin⟩ := p
  -- the word: what is left to be done gives the same end
  let Wd : Nat → Hp → Prop := fun i H => ∃ (st : State) (φ : List Addr) (I : Hp) (acc : List PM.D), Rp X.K E (L2.wipe σ own) H (st.wipe own) φ I ∧ Bst σ H1 st1 φ1 I1 H φ I ∧ (∀ j a, Owns (st.wipe own).env (L2.wipe σ own) j a → Owns st1.env σ j a) ∧ CellAt X.K φ I H Da (.ls acc) ∧ Da ∉ φ ∧ (∀ j, ¬ Owns (st.wipe own).env (L2.wipe σ own) j Da) ∧
    mCompL own g t e (ds.drop i) acc (st.wipe own) = .ok xs st'
  refine ⟨fun i m H => m + i = ds.length ∧ Wd i H, ⟨ds.length, rfl, ?_⟩, ?_⟩
  · obtain ⟨R2, S2⟩ := R1.laidO hDa (.lst [])
    obtain ⟨f1, f2, f3, f4⟩ := R1.fresh hDa
    exact ⟨st1, φ1, I1, [], R2.wipe, S2.bst, fun j a h => wipe_owns h, ⟨_, upd_same, f3, .ls .nil⟩, f2, fun j h => f4 j (wipe_owns h), e0⟩
  · rintro i m H ⟨hm, st, φ, I, acc, R, B, ho, cD, nD, oD, e1⟩
    obtain ⟨w1, w2⟩ := hJ _ H _ φ I R ⟨B.pf, B.ii⟩ i
    by_cases hi : i < ds.length
    · refine .inr ?_
      have hd : ds.drop i = ds[i] :: ds.drop (i + 1) := List.drop_eq_getElem_cons hi
      rw [hd] at e1
      obtain ⟨go, yld⟩ := w1 ds[i] (List.getElem?_eq_getElem hi)
      refine ⟨go, Wd (i + 1), fun H' h => ⟨m - 1, by omega, by omega, h⟩, fun v H' hy => ?_⟩
      obtain ⟨I3, R3, S3, hv⟩ := yld v H' hy
      unfold mCompL at e1
      have ww : (st.wipe own).wipe own = st.wipe own := by
        unfold State.wipe
        congr 1
        apply List.ext_getElem?
        intro k
        cases q : (wipeE (wipeE st.env own) own)[k]? with
        | none =>
          have := List.getElem?_eq_none_iff.mp q
          rw [wipeE_len] at this
          exact (List.getElem?_eq_none this).symm
        | some s =>
          by_cases hk : k ∈ own
          · have aux : ∀ (τ : List Slot) (vs : List Nat) (s : Slot), k ∈ vs → (wipeE τ vs)[k]? = some s → s = .un := fun τ vs s hv hq => (wipeE_some hq).elim id fun z => absurd hv z.2
            have hk2 : k < (wipeE st.env own).length := by
              have := (List.getElem?_eq_some_iff.mp q).1
              rwa [wipeE_len] at this
            have e5 := aux _ _ _ hk q
            subst e5
            have e6 := List.getElem?_eq_getElem hk2
            rw [e6, aux _ _ _ hk e6]
          · rcases wipeE_some q with z | z
            · subst z
              have aux : ∀ (τ : List Slot) (vs : List Nat), k ∉ vs → (wipeE τ vs)[k]? = τ[k]? := by
                intro τ vs
                induction vs with
                | nil => intro _; rfl
                | cons v vs ih =>
                  intro h
                  simp only [List.mem_cons, not_or] at h
                  unfold wipeE
                  rw [List.getElem?_set_ne (fun e => h.1 e.symm)]
                  exact ih h.2
              rw [aux _ _ hk] at q
              exact q.symm
            · exact z.1.symm
      rw [ww] at e1
      cases eg : g ds[i] (st.wipe own) with
      | none => rw [eg] at e1; cases e1
      | some sg =>
        rw [eg] at e1
        simp only at e1
        refine ⟨st.wipe own, φ, I3, ds[i], sg, R3, hv, eg, fun σ2 O2 R4 => ⟨?_, ?_⟩⟩
        · have q := wipe_ext (σ := L2.wipe σ own) (σ' := σ2) (vs := own) (fun k hk => O2.same k fun z => hk (hts k z)) O2.len
          rw [q]
          refine wipe_ext (fun k hk => wipe_out hk) (wipe_len _ _)
        · have B3 := B.trans (fun j a h => ⟨j, ho j a h⟩) S3.bst
          obtain ⟨cD3, nD3⟩ := own_keep cD nD oD S3.bst
          have oD4 : ∀ j, ¬ Owns sg.env σ2 j Da := fun j h => oD j (O2.ow j Da h)
          have ho4 : ∀ j a, Owns sg.env σ2 j a → Owns st1.env σ j a := fun j a h => ho j a (O2.ow j a h)
          have wσ : L2.wipe σ2 own = L2.wipe σ own := by
            rw [wipe_ext (σ := L2.wipe σ own) (σ' := σ2) (vs := own) (fun k hk => O2.same k fun z => hk (hts k z)) O2.len]
            exact wipe_ext (fun k hk => wipe_out hk) (wipe_len _ _)
          refine ⟨sg, φ, I3, R4, ?_⟩
          cases et : t sg with
          | stuck => rw [et] at e1; cases e1
          | exc c s5 => rw [et] at e1; cases e1
          | ok b s5 =>
            rw [et] at e1
            intro H5 φ5 I5 S5 R5
            have B5 := B3.trans (st1 := sg) (σ1 := σ2) (fun j a h => ⟨j, ho4 j a h⟩) S5.bst
            obtain ⟨cD5, nD5⟩ := own_keep cD3 nD3 oD4 S5.bst
            have ho5 : ∀ j a, Owns s5.env σ2 j a → Owns st1.env σ j a := fun j a h => ho4 j a (S5.ow j a h)
            have oD5 : ∀ j, ¬ Owns s5.env σ2 j Da := fun j h => oD4 j (S5.ow j Da h)
            cases b with
            | false =>
              refine ⟨s5, φ5, I5, acc, ?_, B5, fun j a h => ?_, cD5, nD5, fun j h => ?_, e1⟩
              · have := R5.wipe (own := own)
                rwa [wσ] at this
              · rw [← wσ] at h; exact ho5 j a (wipe_owns h)
              · rw [← wσ] at h; exact oD5 j (wipe_owns h)
            | true =>
              simp only at e1
              refine ⟨s5, φ5, I5, R5, ?_⟩
              cases ee : e.frz s5 with
              | stuck => rw [ee] at e1; cases e1
              | exc c s6 => rw [ee] at e1; cases e1
              | ok x s6 =>
                rw [ee] at e1
                simp only at e1
                by_cases hz : acc.length < lim
                · rw [if_pos hz] at e1
                  intro H6 φ6 I6 S6 R6 y hy
                  have B6 := B5.trans (st1 := s5) (σ1 := σ2) (fun j a h => ⟨j, ho5 j a h⟩) S6.bst
                  obtain ⟨⟨o6, g1, g2, g3⟩, nD6⟩ := own_keep cD5 nD5 oD5 S6.bst
                  cases g3 with
                  | ls g3 =>
                    rename_i vs6
                    refine ⟨vs6, g1, by rw [← g3.len]; exact Nat.lt_trans hz lim_lt, ?_⟩
                    have ho6 : ∀ j a, Owns s6.env σ2 j a → Owns st1.env σ j a := fun j a h => ho5 j a (S6.ow j a h)
                    have oD6 : ∀ j, ¬ Owns s6.env σ2 j Da := fun j h => oD5 j (S6.ow j Da h)
                    have eD : E.H0 Da = none := (R1.fresh hDa).1
                    have U : ∀ b, b ≠ Da → upd H6 Da (.lst (vs6 ++ [y])) b = H6 b := fun b hb => upd_ne hb
                    have R7 : Rp X.K E σ2 (upd H6 Da (.lst (vs6 ++ [y]))) s6 φ6 I6 := by
                      refine ⟨fun b u q => ?_, fun b u q n => ?_, fun b q => ?_, R6.inew, R6.iold, R6.pre, R6.fl, R6.pnew, R6.nd, R6.len, fun j c2 b q1 q2 => ?_, fun b q => ?_, R6.elen, R6.sh, fun j c2 q => ?_, R6.one⟩
                      · rw [U b (fun z => by rw [z, g2] at q; cases q)]; exact R6.ext b u q
                      · rw [U b (fun z => by rw [z, eD] at q; cases q)]; exact R6.keep b u q n
                      · by_cases hb : b = Da
                        · rw [hb, upd_same]; simp
                        · rw [U b hb]; exact R6.there b q
                      · rcases R6.cells j c2 b q1 q2 with z | ⟨u, z1, z2, z3⟩
                        · exact .inl z
                        · exact .inr ⟨u, by rw [U b (fun z => nD6 (z ▸ List.mem_of_getElem? q2))]; exact z1, z2, z3⟩
                      · rw [U b (fun z => nD6 (z ▸ q))]; exact R6.pin b q
                      · obtain ⟨b, z1, ⟨u, z2, z3, z4⟩, z5, z6⟩ := R6.ow j c2 q
                        exact ⟨b, z1, ⟨u, by rw [U b (fun z => oD6 j ⟨c2, q, z ▸ z1⟩)]; exact z2, z3, z4⟩, z5, z6⟩
                    refine ⟨s6, φ6, I6, acc ++ [x], ?_, ?_, fun j a h => ?_, ⟨_, upd_same, g2, .ls (g3.append (.cons hy .nil))⟩, nD6, fun j h => ?_, e1⟩
                    · have := R7.wipe (own := own)
                      rwa [wσ] at this
                    · have hn1 : ∀ b, H1 b ≠ none → b ≠ Da := fun b q z => by rw [z] at q; exact q hDa
                      refine ⟨B6.pf, B6.nf, B6.ii, fun b u q n no => ?_, fun b q => ?_, B6.inf⟩
                      · rw [U b (hn1 b (by rw [q]; simp))]; exact B6.fr b u q n no
                      · rw [U b (hn1 b q)]; exact B6.there b q
                    · rw [← wσ] at h; exact ho6 j a (wipe_owns h)
                    · rw [← wσ] at h; exact oD6 j (wipe_owns h)
                · rw [if_neg hz] at e1
                  cases e1
    · refine .inl ⟨w2 (by omega), ?_⟩
      rw [List.drop_eq_nil_of_le (by omega)] at e1
      unfold mCompL at e1
      cases e1
      refine fin _ H φ I ⟨B.pf, B.nf, B.ii, B.fr, B.there, B.inf, fun j a h => ?_⟩ R.unwipe ⟨Da, rfl, cD, nD, (R1.fresh hDa).1, fun j h => ?_⟩ fun a h => by cases h; exact hDa
      · refine ho j a ?_
        obtain ⟨c, h1, h2⟩ := h
        rcases wipeE_some (show (wipeE st.env own)[j]? = _ from h1) with z | ⟨z1, z2⟩
        · cases z
        · exact ⟨c, h1, by rw [wipe_out z2]; exact h2⟩
      · refine oD j ?_
        obtain ⟨c, h1, h2⟩ := h
        rcases wipeE_some (show (wipeE st.env own)[j]? = _ from h1) with z | ⟨z1, z2⟩
        · cases z
        · exact ⟨c, h1, by rw [wipe_out z2]; exact h2⟩
end
end PM
set_option Elab.async false
set_option linter.all false
set_option maxRecDepth 100000
set_option maxHeartbeats 1200000
namespace PM
open PySem PySem.Spec L2
section
variable {X : Cx} {E : Ent} {W : WX} {pos : Pos} {elt tg iter : Expr} {ifs : List Expr} {scope : Scope} {own : List (Str × Nat)} {ts : List Nat} {mi : M (List D)} {g : D → State → Option State} {t : M Bool} {e : M RV}
theorem rd_lc {σ : L2.St} {H : Hp} {Q : VK} (hts : ∀ i ∈ ts, i ∈ own.map (·.2)) (h : rdR X.K E W (mComp (own.map (·.2)) mi g t e) σ H Q) :
    tLc (rdI X.K E W mi) (rdG X.K E ts g) (rdT X.K E WF t) (rdE X.K E WF e.frz) (own.map (·.2)) σ H Q := by
  obtain ⟨st, φ, I, R, p⟩ := h
  refine ⟨st, φ, I, R, (Po.bind p).imp fun ds H1 st1 φ1 I1 S1 R1 p1 J hJ => ?_⟩
  refine rd_comp hts R1 hJ ?_
  cases e0 : mCompL (own.map (·.2)) g t e ds [] (st1.wipe (own.map (·.2))) with
  | stuck => rw [e0] at p1; exact p1.elim
  | exc c s => rw [e0] at p1; exact p1.elim
  | ok xs st' =>
    rw [e0] at p1
    refine ⟨xs, st', rfl, fun v H' φ' I' S' R' hr hn => p1 H' φ' I' S' R' v hr fun a c _ e2 => ?_⟩
    have := hn a e2
    cases q : H a with
    | none => rfl
    | some o => exact absurd this (S1.there a (by rw [q]; simp))
theorem sr_comp (hc : X.calm = true) (hN : X.N.Nodup) (hi : SI X E W tg iter mi) (ok : BlkOk X.N X.env.scope scope own) (hts : ∀ i ∈ ts, i ∈ own.map (·.2))
    (hg : ∀ (s : Shared) (H : Hp) (C : Addr) (cl : List (Str × Addr)) (fp : List Addr), SG (X.blk s H scope (compEnvC scope cl C X.env) fp) E tg ts g)
    (ht : ∀ (s : Shared) (H : Hp) (C : Addr) (cl : List (Str × Addr)) (fp : List Addr), PTs (X.blk s H scope (compEnvC scope cl C X.env) fp) ifs (rdT X.K E WF t))
    (he : ∀ (s : Shared) (H : Hp) (C : Addr) (cl : List (Str × Addr)) (fp : List Addr), SR (X.blk s H scope (compEnvC scope cl C X.env) fp) E WF elt e) (hs : ∀ x, foldedSetIterable iter X.env x = Pure.pure x := by intro _; rfl) :
    SR X E W (.ListComp elt [⟨tg, iter, ifs, 0⟩] scope pos) (mComp (own.map (·.2)) mi g t e) :=
  PEi (pe_lc hc hN hi ok hg ht (fun s H C cl fp => se_frz (he s H C cl fp)) hs) fun _ _ _ h => rd_lc hts h
/-! ### methods that change a list -/
def isLs : D → Option Unit
  | .lst _ => some ()
  | _ => none
/-- a method of a list: f of the items and the arguments gives the value and the new items -/
def lsC (f : List D → List D → Option (D × List D)) (args : List D) : Cell → Option (D × Cell)
  | .ls ds => (f ds args).map fun p => (p.1, .ls p.2)
  | _ => none
def mMut (f : List D → List D → Option (D × List D)) (a : M RV) (args : M (List D)) : M RV := a.bor.bind fun r => (at1 isLs r).bind fun _ => args.bind fun ds st => match upC (lsC f ds) r st with
  | some (d, st') => .ok (.sh d) st'
  | none => .stuck
/-- the rule of such a method -/
def MutR (X : Cx) (E : Ent) (id : String) (f : List D → List D → Option (D × List D)) : Prop := ∀ (σ : L2.St) (H : Hp) (st : State) (φ : List Addr) (I : Hp) (a : Addr) (vs us : List V) (ds es ds' : List D) (d : D) (Q : VK), Rp X.K E σ H st φ I → H a = some (.lst vs) → Rvs X.K φ I ds vs → Rvs X.K φ I es us → f ds es = some (d, ds') →
  (∀ u vs', Rv X.K φ I d u → Rvs X.K φ I ds' vs' → Q u (upd H a (.lst vs'))) → ∃ r, MtR X id r ∧ r (.ref a) us H Q
def rdM (K : PySem.W.Frag) (E : Ent) (f : List D → List D → Option (D × List D)) : V → List V → Hp → VK → Prop := fun x us H Q => ∃ (σ : L2.St) (st : State) (φ : List Addr) (I : Hp) (a : Addr) (vs : List V) (ds es ds' : List D) (d : D), x = .ref a ∧ Rp K E σ H st φ I ∧ H a = some (.lst vs) ∧ Rvs K φ I ds vs ∧ Rvs K φ I es us ∧ f ds es = some (d, ds') ∧
  ∀ u vs', Rv K φ I d u → Rvs K φ I ds' vs' → Q u (upd H a (.lst vs'))
theorem mt_of {id : String} {f : List D → List D → Option (D × List D)} (h : MutR X E id f) : MtR X id (rdM X.K E f) := fun pins s σ' H x us v ws Q I0 rx rv ⟨σ, st, φ, I, a, vs, ds, es, ds', d, ex, R, g1, g2, g3, g4, q⟩ => by
  subst ex
  obtain ⟨r, h1, h2⟩ := h σ H st φ I a vs us ds es ds' d Q R g1 g2 g3 g4 q
  exact h1 pins s σ' H (.ref a) us v ws Q I0 rx rv h2
theorem view_bor {σ : L2.St} {H : Hp} {st : State} {φ : List Addr} {I : Hp} {r : RV} {v : V} {ds : List D} (R : Rp X.K E σ H st φ I) (hr : Rr X.K E σ H st φ I r v) (e : view st r = some (.lst ds)) : ∃ a vs, v = .ref a ∧ H a = some (.lst vs) ∧ Rvs X.K φ I ds vs := (hr.seen Stp.refl R e).lst R.ext
theorem rd_mut {o : M RV} {args : M (List D)} {f : List D → List D → Option (D × List D)} {σ : L2.St} {H : Hp} {Q : VK} (h : rdR X.K E W (mMut f o args) σ H Q) : tBM X.K "list" (rdM X.K E f) (rdR X.K E W o.bor) (rdA X.K E W args) σ H Q := by
  obtain ⟨st, φ, I, R, p⟩ := h
  unfold mMut at p
  refine ⟨st, φ, I, R, ?_⟩
  have p0 := Po.bind p
  unfold M.bor M.bind at p0 ⊢
  cases e0 : o st with
  | stuck => rw [e0] at p0; exact p0.elim
  | exc c s => rw [e0] at p0; exact p0
  | ok r0 st1 =>
    rw [e0] at p0
    intro H1 φ1 I1 S1 R1 v hv _
    have p1 := Po.bind (p0 H1 φ1 I1 S1 R1)
    obtain ⟨x, _, ex, e1, p2⟩ := Po.at1 p1
    cases x <;> try (cases e1; done)
    obtain ⟨a, vs, rfl, g1, g2⟩ := view_bor R1 hv ex
    refine ⟨.inl ⟨rfl, vs, .inl (.inl g1)⟩, st1, φ1, I1, R1, (Po.bind (p2 H1 φ1 I1 Stp.refl R1)).imp fun es H2 st2 φ2 I2 S2 R2 p3 us hus => ?_⟩
    cases e3 : upC (lsC f es) r0.bor st2 with
    | none => rw [e3] at p3; exact p3.elim
    | some q =>
      obtain ⟨d, st3⟩ := q
      rw [e3] at p3
      obtain ⟨a', c, c', ob, e4, g3, g4, g5, g6⟩ := R2.up (f := lsC f es) rfl (hv.step S2 bor_no) e3
      cases e4
      cases g4 <;> try (cases g5; done)
      rename_i ds2 vs2 g4
      obtain ⟨⟨d', ds'⟩, e5, e6⟩ := Option.map_eq_some_iff.mp g5
      cases e6
      refine ⟨σ, st2, φ2, I2, a, vs2, ds2, es, _, _, rfl, R2, g3, g4, hus, e5, fun u vs' hu hvs' => ?_⟩
      obtain ⟨R3, S3⟩ := g6 _ (.ls hvs')
      exact p3 _ φ2 I2 S3 R3 u hu Nw.sh
variable {o a b : Expr} {mo ma mb : M RV} {es : List Expr} {mas : M (List D)} {name : Str} {id : String} {apos cpos : Pos} {f : List D → List D → Option (D × List D)}
theorem sr_mut (hm : MutR X E id f) (slot : PySem.Slot "list" name id) (hty : typeOf (.builtin id) = Pure.pure (.type "method_descriptor")) (ho : SR X E W o mo) (ha : SA X E W (a :: es) mas)
    (hbase : attributeBase o name X.env (eval o X.env) = eval o X.env := by rfl)
    (hfew : ((backTo cpos (starEach (a :: es) X.env)).all (fun x => !x.1) && (backToKw cpos (keywordEach [] X.env)).all (fun x => x.1.isSome)
      && decide ((a :: es).length + ([] : List Keyword).length + (if ([] : List Keyword).isEmpty then 0 else 1) < 30)) = true := by rfl)
    (hline : (apos.endLine == cpos.line) = true := by rfl) (hs : starEach (a :: es) X.env = (false, eval a X.env) :: starEach es X.env := by rfl) (hplain : (backTo cpos (starEach es X.env)).any (·.1) = false := by rfl) :
    SR X E W (.Call (.Attribute o name apos) (a :: es) [] cpos) (mMut f mo mas) := PEi (pe_bm PySem.F.plainAttrs_list slot hty (mt_of hm) (sr_bor ho) ha hbase hfew hline hs hplain) fun _ _ _ h => rd_mut h
def fApp (ds : List D) : List D → Option (D × List D)
  | [d] => if ds.length < lim then some (.non, ds ++ [d]) else none
  | _ => none
theorem mu_app : MutR X E "list.append" fApp := fun σ H st φ I a vs us ds es ds' d Q R g1 g2 g3 g4 q => by
  match es, g3, g4 with
  | [x], .cons hx .nil, g4 =>
    simp only [fApp] at g4
    by_cases hz : ds.length < lim
    · rw [if_pos hz] at g4
      cases g4
      exact ⟨_, mt_append, a, vs, _, rfl, rfl, g1, by rw [← g2.len]; exact Nat.lt_trans hz lim_lt, q _ _ .non (g2.append (.cons hx .nil))⟩
    · rw [if_neg hz] at g4
      cases g4
def fPop (ds : List D) : List D → Option (D × List D)
  | [] => ds.getLast?.map fun d => (d, ds.dropLast)
  | [.int i] => if 0 ≤ i ∧ i.toNat < 1000000 then (ds[i.toNat]?).map fun d => (d, ds.eraseIdx i.toNat) else none
  | _ => none
theorem Rvs.dropLast {K : PySem.W.Frag} {φ : List Addr} {I : Hp} {ds : List D} {vs : List V} (h : Rvs K φ I ds vs) : Rvs K φ I ds.dropLast vs.dropLast := by
  rw [List.dropLast_eq_take, List.dropLast_eq_take, h.len]
  exact h.take _
/-! ### methods of texts -/
variable {g0 : D → Option RV} {g2 : D → D → Option RV}
def isSt : D → Option Unit
  | .str _ => some ()
  | _ => none
def mS1 (g : D → D → Option RV) (a b : M RV) : M RV := a.bor.bind fun r => (at1 isSt r).bind fun _ => b.bor.bind fun s => at2 g r s
end
end PM
set_option Elab.async false
set_option linter.all false
set_option maxRecDepth 100000
set_option maxHeartbeats 1200000
namespace PM
open PySem PySem.Spec L2
/-! ### a new thing goes to the store -/
section
variable {K : PySem.W.Frag} {E : Ent} {σ : L2.St} {H H0 : Hp} {st st0 : State} {φ φ0 : List Addr} {I I0 : Hp}
theorem Rp.store (R : Rp K E σ H st φ I) (S : Stp σ H0 st0 φ0 I0 H st φ I) {c : Cell} {v : V} (h : Rr K E σ H st φ I (.ow c) v) (hf : Nw σ H0 st0 (.ow c) v) :
    ∃ a, v = .ref a ∧ Rp K E σ H { st with store := st.store ++ [c] } (φ ++ [a]) I ∧ Stp σ H0 st0 φ0 I0 H { st with store := st.store ++ [c] } (φ ++ [a]) I := by
  obtain ⟨a, rfl, h1, h2, h3, h4⟩ := h
  have pf : φ <+: φ ++ [a] := ⟨[a], rfl⟩
  refine ⟨a, rfl, ⟨R.ext, R.keep, R.there, fun b z n => ?_, R.iold, ?_, R.fl.pp pf, fun b z => ?_, ?_, by simp [R.len], fun i c' b e1 e2 => ?_, fun b z => ?_, R.elen, fun i d e => ?_, fun i c' e => ?_, R.one⟩, ?_⟩
  · exact R.inew b z n
  · obtain ⟨m, e⟩ := R.pre
    exact ⟨m ++ [a], by rw [e, List.append_assoc]⟩
  · rcases List.mem_append.mp z with z | z
    · exact R.pnew b z
    · rw [List.mem_singleton.mp z]; exact .inr h3
  · refine List.nodup_append.mpr ⟨R.nd, by simp, fun x hx y hy e => ?_⟩
    rw [List.mem_singleton.mp hy] at e
    exact h2 (e ▸ hx)
  · by_cases hi : i < st.store.length
    · rw [List.getElem?_append_left hi] at e1
      rw [List.getElem?_append_left (by rw [R.len]; exact hi)] at e2
      rcases R.cells i c' b e1 e2 with z | z
      · exact .inl z
      · exact .inr (z.mono pf (Ex.refl _) z.choose_spec.2.1 fun _ q => q)
    · rw [List.getElem?_append_right (by omega)] at e1
      rw [List.getElem?_append_right (by rw [R.len]; omega), R.len] at e2
      have hz : i - st.store.length = 0 := by
        by_cases q : i - st.store.length = 0
        · exact q
        · rw [List.getElem?_eq_none (by simp; omega)] at e1
          cases e1
      rw [hz] at e1 e2
      cases e1
      cases e2
      exact .inr (h1.mono pf (Ex.refl _) h1.choose_spec.2.1 fun _ q => q)
  · rcases List.mem_append.mp z with z | z
    · exact R.pin b z
    · rw [List.mem_singleton.mp z, h1.choose_spec.1]; simp
  · obtain ⟨v, q1, q2⟩ := R.sh i d e
    exact ⟨v, q1, q2.mono pf (Ex.refl _)⟩
  · obtain ⟨b, q1, q2, q3, q4⟩ := R.ow i c' e
    refine ⟨b, q1, q2.mono pf (Ex.refl _) q2.choose_spec.2.1 fun _ q => q, fun z => ?_, q4⟩
    rcases List.mem_append.mp z with z | z
    · exact q3 z
    · have z := List.mem_singleton.mp z
      subst z
      exact h4 i ⟨c', e, q1⟩
  · refine ⟨S.pf.trans pf, fun b z n => ?_, S.ii, S.fr, S.there, S.inf, S.ow⟩
    rcases List.mem_append.mp z with z | z
    · exact S.nf b z n
    · rw [List.mem_singleton.mp z]; exact hf a c rfl rfl
end
/-- a new thing, known to all from now on -/
def mNew (m : M RV) : M RV := m.bind fun r st => match r with
  | .ow c => .ok (.sh (.obj st.store.length)) { st with store := st.store ++ [c] }
  | _ => .stuck
section
variable {X : Cx} {E : Ent} {W : WX} {pos : Pos} {e a b : Expr} {m ma mb : M RV}
theorem sr_new (h : SR X E W e m) : SR X E W e (mNew m) := PEi h fun σ H Q ⟨st, φ, I, R, p⟩ => by
  refine ⟨st, φ, I, R, ?_⟩
  unfold mNew M.bind at p
  cases e1 : m st with
  | stuck => rw [e1] at p; exact p.elim
  | exc c s => rw [e1] at p; exact p
  | ok r st1 =>
    rw [e1] at p
    cases r with
    | sh d => exact p.elim
    | lo i => exact p.elim
    | ow c =>
      intro H1 φ1 I1 S1 R1 v hr hn
      obtain ⟨a, rfl, R2, S2⟩ := R1.store S1 hr hn
      refine p H1 (φ1 ++ [a]) I1 S2 R2 _ (.obj ?_) Nw.sh
      rw [← R1.len]
      exact List.getElem?_concat_length ..
/-! ### a dict display -/
def mPr : List (M RV × M RV) → M (List (D × D))
  | [] => M.pure []
  | (k, v) :: r => k.frz.bind fun x => v.frz.bind fun y => (mPr r).bind fun ps => M.pure ((x, y) :: ps)
def asKs : List (D × D) → Option (List (Key × D))
  | [] => some []
  | (k, v) :: r => (asKey k).bind fun x => (asKs r).map fun ps => (x, v) :: ps
def mergeD (kvs more : List (Key × D)) : List (Key × D) := more.foldl (fun acc kv => dput acc kv.1 kv.2) kvs
def mDisp (trs : List (M RV × M RV)) : M RV := (mPr trs).bind fun ps => match asKs ps with
  | some kvs => if kvs.length ≤ 15 then M.pure (.ow (.dc (mergeD [] kvs))) else M.stuck
  | none => M.stuck
abbrev SPr (X : Cx) (E : Ent) (W : WX) (pos : Pos) (ks : List (Option Expr)) (vs : List Expr) (trs : List (M RV × M RV)) : Prop := PPs X pos ks vs (trs.map fun p => (rdE X.K E W p.1.frz, rdE X.K E W p.2.frz))
variable {ks : List (Option Expr)} {vs : List Expr} {trs : List (M RV × M RV)}
theorem spr_nil : SPr X E W pos [] [] [] := pps_nil
theorem spr_cons (ha : SR X E W a ma) (hb : SR X E W b mb) (hr : SPr X E W pos ks vs trs) : SPr X E W pos (some a :: ks) (b :: vs) ((ma, mb) :: trs) := pps_cons (se_frz ha) (se_frz hb) hr
inductive Prs (K : PySem.W.Frag) (φ : List Addr) (I : Hp) : List (D × D) → List (V × V) → Prop
  | nil : Prs K φ I [] []
  | cons {x y : D} {u v : V} {r s} : Rv K φ I x u → Rv K φ I y v → Prs K φ I r s → Prs K φ I ((x, y) :: r) ((u, v) :: s)
theorem rd_pr {K : PySem.W.Frag} : ∀ {trs : List (M RV × M RV)} {σ : L2.St} {H : Hp} {st : State} {φ : List Addr} {I : Hp} {k : List (D × D) → Hp → State → List Addr → Hp → Prop} {Q : List (V × V) → Hp → Prop}, Rp K E σ H st φ I → Po K E W σ (mPr trs st) H st φ I k →
    (∀ ps us H' st' φ' I', Stp σ H st φ I H' st' φ' I' → Rp K E σ H' st' φ' I' → Prs K φ' I' ps us → k ps H' st' φ' I' → Q us H') → tPairs (trs.map fun p => (rdE K E W p.1.frz, rdE K E W p.2.frz)) σ H Q
  | [], σ, H, st, φ, I, k, Q, R, p, h => h [] [] H st φ I Stp.refl R .nil (p.pure R)
  | (a, b) :: r, σ, H, st, φ, I, k, Q, R, p, h => by
    refine ⟨st, φ, I, R, (Po.bind p).imp fun x H1 st1 φ1 I1 S1 R1 p1 u hu => ?_⟩
    refine ⟨st1, φ1, I1, R1, (Po.bind p1).imp fun y H2 st2 φ2 I2 S2 R2 p2 v hv => ?_⟩
    refine rd_pr R2 (Po.bind p2) fun ps us H3 st3 φ3 I3 S3 R3 hp p3 => ?_
    exact h _ _ H3 st3 φ3 I3 ((S1.trans S2).trans S3) R3 (.cons (hu.mono (S2.pf.trans S3.pf) (S2.ii.trans S3.ii)) (hv.mono S3.pf S3.ii) hp) (p3.pure R3)
theorem prs_keys {K : PySem.W.Frag} {φ : List Addr} {I : Hp} : ∀ {ps : List (D × D)} {us : List (V × V)} {kvs : List (Key × D)}, Prs K φ I ps us → asKs ps = some kvs → ∃ ws : List (Key × V), us = ws.map (fun kv => (kV kv.1, kv.2)) ∧ ws.map (·.1) = kvs.map (·.1) ∧ Rvs K φ I (kvs.map (·.2)) (ws.map (·.2))
  | [], _, _, .nil, e => by cases e; exact ⟨[], rfl, rfl, .nil⟩
  | (x, y) :: r, _, _, .cons hx hy hr, e => by
    obtain ⟨k, e1, e2⟩ := Option.bind_eq_some_iff.mp e
    obtain ⟨ps, e3, rfl⟩ := Option.map_eq_some_iff.mp e2
    obtain ⟨ws, rfl, h1, h2⟩ := prs_keys hr e3
    have := asKey_rv hx e1
    subst this
    exact ⟨(k, _) :: ws, rfl, by simp [h1], .cons hy h2⟩
theorem mergeD_rel {K : PySem.W.Frag} {φ : List Addr} {I : Hp} : ∀ {more : List (Key × D)} {ws : List (Key × V)} {kvs : List (Key × D)} {us : List (Key × V)}, us.map (·.1) = kvs.map (·.1) → Rvs K φ I (kvs.map (·.2)) (us.map (·.2)) → ws.map (·.1) = more.map (·.1) → Rvs K φ I (more.map (·.2)) (ws.map (·.2)) →
    (mergeK us ws).map (·.1) = (mergeD kvs more).map (·.1) ∧ Rvs K φ I ((mergeD kvs more).map (·.2)) ((mergeK us ws).map (·.2))
  | [], [], _, _, h1, h2, _, _ => ⟨h1, h2⟩
  | [], _ :: _, _, _, _, _, h3, _ => by cases h3
  | _ :: _, [], _, _, _, _, h3, _ => by cases h3
  | (k, d) :: more, (k', v) :: ws, kvs, us, h1, h2, h3, h4 => by
    simp only [List.map_cons, List.cons.injEq] at h3 h4
    obtain ⟨rfl, h3⟩ := h3
    cases h4 with
    | cons h4 h5 =>
      obtain ⟨q1, q2⟩ := dput_rel (k := k') h1 h2 h4
      show (mergeK (putK us k' v) ws).map (·.1) = (mergeD (dput kvs k' d) more).map (·.1) ∧ Rvs K φ I ((mergeD (dput kvs k' d) more).map (·.2)) ((mergeK (putK us k' v) ws).map (·.2))
      exact mergeD_rel (kvs := dput kvs k' d) (us := putK us k' v) q1 q2 h3 h5
theorem Po.from {K : PySem.W.Frag} {α : Type} {o : Out α} {σ : L2.St} {H H1 : Hp} {st st1 : State} {φ φ1 : List Addr} {I I1 : Hp} {k : α → Hp → State → List Addr → Hp → Prop} (S : Stp σ H st φ I H1 st1 φ1 I1) (h : Po K E W σ o H st φ I k) : Po K E W σ o H1 st1 φ1 I1 k := by
  cases o with
  | ok a st => exact fun H' φ' I' S' => h H' φ' I' (S.trans S')
  | exc c st => exact fun d H' φ' I' S' => h d H' φ' I' (S.trans S')
  | stuck => exact h
theorem Po.bindA {K : PySem.W.Frag} {α β : Type} {m : M α} {f : α → M β} {σ : L2.St} {H : Hp} {st : State} {φ : List Addr} {I : Hp} {k : β → Hp → State → List Addr → Hp → Prop} (h : Po K E W σ (m.bind f st) H st φ I k) :
    Po K E W σ (m st) H st φ I fun a _ st1 _ _ => Po K E W σ (f a st1) H st φ I k := by
  unfold M.bind at h
  cases e : m st with
  | ok a st1 => rw [e] at h; exact fun _ _ _ _ _ => h
  | exc c st1 => rw [e] at h; exact h
  | stuck => rw [e] at h; exact h
/-- a thing that nobody knows of changes -/
theorem Rp.updN {K : PySem.W.Frag} {σ : L2.St} {H : Hp} {st : State} {φ : List Addr} {I : Hp} {q : Addr} (R : Rp K E σ H st φ I) (hI : I q = none) (hφ : q ∉ φ) (h0 : E.H0 q = none) (ho : ∀ i, ¬ Owns st.env σ i q) (o : HO) : Rp K E σ (upd H q o) st φ I := by
  refine ⟨fun a u e => ?_, fun a u e n => ?_, fun a h => ?_, R.inew, R.iold, R.pre, R.fl, R.pnew, R.nd, R.len, fun i c a h1 h2 => ?_, fun a h => ?_, R.elen, R.sh, fun i c h => ?_, R.one⟩
  · rw [upd_ne (show a ≠ q from fun z => by rw [z, hI] at e; cases e)]; exact R.ext a u e
  · rw [upd_ne (show a ≠ q from fun z => by rw [z, h0] at e; cases e)]; exact R.keep a u e n
  · by_cases hb : a = q
    · rw [hb, upd_same]; simp
    · rw [upd_ne hb]; exact R.there a h
  · rcases R.cells i c a h1 h2 with z | ⟨u, z1, z2, z3⟩
    · exact .inl z
    · exact .inr ⟨u, by rw [upd_ne (show a ≠ q from fun z => hφ (z ▸ List.mem_of_getElem? h2))]; exact z1, z2, z3⟩
  · by_cases hb : a = q
    · rw [hb, upd_same]; simp
    · rw [upd_ne hb]; exact R.pin a h
  · obtain ⟨a, h1, ⟨u, z1, z2, z3⟩, h3, h4⟩ := R.ow i c h
    exact ⟨a, h1, ⟨u, by rw [upd_ne (show a ≠ q from fun z => ho i ⟨c, h, z ▸ h1⟩)]; exact z1, z2, z3⟩, h3, h4⟩
theorem Stp.updN {σ : L2.St} {H H0 : Hp} {st st0 : State} {φ φ0 : List Addr} {I I0 : Hp} {q : Addr} (S : Stp σ H0 st0 φ0 I0 H st φ I) (hq : H0 q = none) (o : HO) : Stp σ H0 st0 φ0 I0 (upd H q o) st φ I :=
  ⟨S.pf, S.nf, S.ii, fun a u e n h => by rw [upd_ne (show a ≠ q from fun z => by rw [z, hq] at e; cases e)]; exact S.fr a u e n h, fun a h => by
    by_cases hb : a = q
    · rw [hb, upd_same]; simp
    · rw [upd_ne hb]; exact S.there a h, S.inf, S.ow⟩
theorem sr_disp (h : SPr X E W pos ks vs trs) (hall : ks.all (·.isSome) = true := by rfl) (hl : ks.length = vs.length := by rfl) (h0 : ks ≠ [] := by exact List.cons_ne_nil _ _) (h15 : ks.length ≤ 15 := by decide) : SR X E W (.Dict ks vs pos) (mDisp trs) := PEi (pe_disp h hall hl h0 h15) fun σ H Q ⟨st, φ, I, R, p⟩ => by
  intro q hq
  obtain ⟨R1, S1⟩ := R.laidO hq (.dK [])
  obtain ⟨h0, hφ, hI, ho⟩ := R.fresh hq
  refine rd_pr R1 (Po.from S1 (Po.bindA p)) fun ps us H3 st3 φ3 I3 S3 R3 hp p3 => ?_
  have own3 : ∀ i, ¬ Owns st3.env σ i q := fun i z => ho i (S3.ow i q z)
  have e3 : H3 q = some (.dK []) := S3.fr q _ upd_same hφ ho
  have i3 : I3 q = none := by
    cases z : I3 q with
    | none => rfl
    | some u =>
      rcases S3.inf q (by rw [z]; simp) hI with y | y | ⟨i, y⟩
      · rw [upd_same] at y; cases y
      · exact absurd y hφ
      · exact absurd y (ho i)
  have f3 : q ∉ φ3 := fun z => by
    have := S3.nf q z hφ
    rw [upd_same] at this
    cases this
  refine ⟨e3, ?_⟩
  cases ek : asKs ps with
  | none => rw [ek] at p3; exact p3.elim
  | some kvs =>
    rw [ek] at p3
    by_cases hz : kvs.length ≤ 15
    · simp only [if_pos hz] at p3
      obtain ⟨ws, rfl, h1, h2⟩ := prs_keys hp ek
      obtain ⟨m1, m2⟩ := mergeD_rel (kvs := []) (us := []) rfl .nil h1 h2
      refine ⟨ws, rfl, ?_, ?_⟩
      · have := congrArg List.length h1
        rw [List.length_map, List.length_map] at this
        omega
      · have R4 := R3.updN i3 f3 h0 own3 (.dK (mergeK [] ws))
        exact p3 _ φ3 I3 ((S1.trans S3).updN hq _) R4 _ ⟨q, rfl, ⟨_, upd_same, i3, .dc m1 m2⟩, f3, h0, own3⟩ fun a c _ e => by cases e; exact hq
    · simp only [if_neg hz] at p3
      exact p3.elim
theorem sr_disp0 : SR X E W (.Dict [] [] pos) (mDisp []) := PEi pe_dnewK fun σ H Q ⟨st, φ, I, R, p⟩ => by
  have p' : Po X.K E W σ (.ok (.ow (.dc [])) st) H st φ I fun r H' st' φ' I' => ∀ v, Rr X.K E σ H' st' φ' I' r v → Nw σ H st r v → Q v H' := p
  intro q hq
  obtain ⟨R2, S2⟩ := R.laidO hq (.dK [])
  obtain ⟨h0, hφ, hI, ho⟩ := R.fresh hq
  exact p' _ φ _ S2 R2 _ ⟨q, rfl, ⟨_, upd_same, hI, .dc rfl .nil⟩, hφ, h0, ho⟩ fun a c _ e => by cases e; exact hq
end
end PM
set_option Elab.async false
set_option linter.all false
set_option maxRecDepth 100000
set_option maxHeartbeats 1200000
namespace PM
open PySem PySem.Spec L2
section
variable {X : Cx} {E : Ent} {W : WX} {pos : Pos} {e a b : Expr} {m ma mb : M RV}
/-! ### is, in -/
def opIs2 : D → D → Option Bool
  | .bl x, .bl y => some (decide (x = y))
  | x, y => opIs x y
def opIsNot2 (x y : D) : Option Bool := (opIs2 x y).map (!·)
theorem ob_is2 : OpB X E (compareOp .Is) opIs2 := op_cases fun v w H Q ⟨σ, st, φ, I, x, y, r, R, hx, hy, e, q⟩ => by
  by_cases h : ∃ a b, x = .bl a ∧ y = .bl b
  · obtain ⟨a, b, rfl, rfl⟩ := h
    cases e
    exact ⟨_, op_is_bl, a, b, hx.bl, hy.bl, q⟩
  · have e' : opIs x y = some r := by
      unfold opIs2 at e
      split at e
      · exact absurd ⟨_, _, rfl, rfl⟩ h
      · exact e
    exact ⟨_, ob_is, σ, st, φ, I, x, y, r, R, hx, hy, e', q⟩
/-- x in a text, a list, a tuple -/
def opIn0 (x y : D) : Option Bool := match x, y with
  | .str a, .str z => if h : a.cps.size = 1 then some (decide (a.cps[0] ∈ z.cps.toList)) else none
  | x, y => x.py.bind fun p => y.py.bind fun q => if SeqAt.shaped p && SeqAt.shaped q then match q with
    | .list ds => some (ds.any fun z => PyData.eqv z p)
    | .tuple ds => some (ds.any fun z => PyData.eqv z p)
    | _ => none else none
/-- .. a dict -/
def opIn (x y : D) : Option Bool := match y with
  | .dct kvs => (asKey x).map fun k => (dget kvs k).isSome
  | .dcT kvs => (match x with
    | .tup ks => (asKeys ks).map fun k => (dget kvs k).isSome
    | _ => none)
  | y => opIn0 x y
/-! ### isinstance of a built-in class, or a pair of them -/
def opKind : D → Option String
  | .non => some "NoneType"
  | .bl _ => some "bool"
  | .int _ => some "int"
  | .str _ => some "str"
  | .tup _ => some "tuple"
  | .tpF _ => some "tuple"
  | .lst _ => some "list"
  | .lsF _ => some "list"
  | .dct _ => some "dict"
  | _ => none
theorem opKind_ty {K : PySem.W.Frag} {φ : List Addr} {I H : Hp} {d : D} {v : V} {T : String} (hx : Ex I H) (h : Seen K φ I H d v) (e : opKind d = some T) : TyX K H v (.type T) := by
  cases d <;> simp only [opKind, Option.some.injEq, reduceCtorEq] at e <;> subst e
  · rw [h.non]; exact .base .non
  · rw [h.bl]; exact .base (.bl _)
  · rw [h.int]; exact .base (.int _)
  · rw [h.str]; exact .base (.str _)
  · obtain ⟨a, vs, rfl, h1, _⟩ := h.tup hx; exact .base (.tup h1)
  · obtain ⟨a, vs, rfl, h1, _⟩ := h.lst hx; exact .base (.lst h1)
  · obtain ⟨a, vs, rfl, h1, _⟩ := h.lsF hx
    rcases h1 with (h1 | ⟨o, h1⟩) | ⟨o, its, n, h1, h2, _⟩
    · exact .base (.lst h1)
    · exact .base (.frz h1)
    · exact .kList h1 h2
  · obtain ⟨a, vs, rfl, h1, _⟩ := h.tpF hx
    rcases h1 with (h1 | ⟨o, h1⟩) | ⟨o, its, n, h1, h2, _⟩
    · exact .base (.tup h1)
    · exact .fTuple h1
    · exact .kTuple h1 h2
  · obtain ⟨a, vs, rfl, h1, _⟩ := h.dct hx
    rcases h1 with h1 | ⟨o, h1⟩
    · exact .base (.dK h1)
    · exact .fDict h1
variable {p : Pos} {x : Str}
theorem sr_ty {T : String} (hg : Gl X x) (hm : X.mg x = none) (hv : bootBuiltins x = some (.type T)) (hn : x ≠ "__name__" := by decide) (hdb : (x == ("__debug__" : Str)) = false := by decide) : SR X E W (.Name x pos) (mL (.val (.ty T))) :=
  sr_lit (pe_bltn (v := .ty T) hg hm hv rfl hn hdb) fun _ _ => .val _
/-- the built-in types of a display -/
def tysOf : List D → Option (List String)
  | [] => some []
  | .val (.ty T) :: r => (tysOf r).map (T :: ·)
  | _ => none
def kitBs (k : String) : List String → Option Bool
  | [] => some false
  | T :: Ts => (kitB k T).bind fun b => if b then some true else kitBs k Ts
def opIsi (x y : D) : Option RV := match y with
  | .val (.ty T) => (opKind x).bind fun k => (kitB k T).map fun b => .sh (.bl b)
  | .tup ds => (tysOf ds).bind fun Ts => (opKind x).bind fun k => (kitBs k Ts).map fun b => .sh (.bl b)
  | _ => none
theorem tys_rv {K : PySem.W.Frag} {φ : List Addr} {I : Hp} : ∀ {ds : List D} {vs : List V} {Ts : List String}, Rvs K φ I ds vs → tysOf ds = some Ts → Paired ClsV vs (Ts.map Value.type)
  | [], _, _, .nil, e => by cases e; exact .nil
  | d :: ds, _, _, .cons h1 h2, e => by
    cases d <;> try (cases e; done)
    rename_i v
    cases v <;> try (cases e; done)
    obtain ⟨Ts, e1, rfl⟩ := Option.map_eq_some_iff.mp e
    cases h1
    exact .cons (.ty _) (tys_rv h2 e1)
theorem kitBs_ok {K : PySem.W.Frag} {k : String} : ∀ {Ts : List String} {b : Bool}, kitBs k Ts = some b → PySem.W.kitAny K (.type k) (Ts.map Value.type) = some b
  | [], _, e => by cases e; exact kitAny_nil
  | T :: Ts, b, e => by
    obtain ⟨c, e1, e2⟩ := Option.bind_eq_some_iff.mp e
    refine kitAny_cons (kit_ty e1) (fun z => ?_) fun z => ?_
    · subst z
      exact kitBs_ok e2
    · subst z
      exact (Option.some.inj e2).symm
theorem cl_isi : CallR X (.builtin "isinstance") (rdC2 X.K E opIsi) := call_cases fun vs H Q ⟨v, w, e0, σ, st, φ, I, x, y, r, R, hx, hy, e, q⟩ => by
  subst e0
  unfold opIsi at e
  split at e
  · rename_i T
    obtain ⟨k, e1, e⟩ := Option.bind_eq_some_iff.mp e
    obtain ⟨b, e2, rfl⟩ := Option.map_eq_some_iff.mp e
    have hw : w = .ty T := by
      rcases hy with hy | ⟨a, c, _, e, _⟩
      · cases hy; rfl
      · cases c <;> cases e
    subst hw
    exact ⟨_, call_isi, v, .ty T, _, _, b, rfl, .ty T, opKind_ty R.ext hx e1, kit_ty e2, q.sh R (.bl b)⟩
  · rename_i ds
    obtain ⟨Ts, e0, e⟩ := Option.bind_eq_some_iff.mp e
    obtain ⟨k, e1, e⟩ := Option.bind_eq_some_iff.mp e
    obtain ⟨b, e2, rfl⟩ := Option.map_eq_some_iff.mp e
    obtain ⟨a, cs, rfl, g1, g2⟩ := hy.tup R.ext
    exact ⟨_, call_isiT, v, a, cs, _, _, b, rfl, g1, tys_rv g2 e0, opKind_ty R.ext hx e1, kitBs_ok e2, q.sh R (.bl b)⟩
  · cases e
/-! ### all, any of a list of bools -/
/-! ### l.count(x) -/
/-- o.m(x), o a list that stays as it is -/
def isLst : D → Option Unit
  | .lst _ => some ()
  | _ => none
def mL1 (g : D → D → Option RV) (a b : M RV) : M RV := a.bor.bind fun r => (at1 isLst r).bind fun _ => b.bor.bind fun s => at2 g r s
/-! ### f'..' -/
def opFmt : D → Option RV
  | .str z => if z.length ≤ lim then some (.sh (.str z)) else none
  | .int i => if i.natAbs.log2 < 1920 then some (.sh (.str (toString i))) else none
  | _ => none
def mFm (a : M RV) : M RV := a.bor.bind fun r => at1 opFmt r
def mJs : List (M RV) → Str → M Str
  | [], acc => M.pure acc
  | m :: ms, acc => m.bind fun r => match r with
    | .sh (.str z) => if (acc ++ z).length ≤ lim then mJs ms (acc ++ z) else M.stuck
    | _ => M.stuck
def mJoin (ms : List (M RV)) : M RV := (mJs ms Str.empty).bind fun z => M.pure (.sh (.str z))
/-! ### range(i, j, c) -/
variable {c tg : Expr} {mc : M RV}
/-! ### o.m(x) of a list -/
variable {o : Expr} {mo : M RV} {name : Str} {id : String} {apos : Pos} {g2 : D → D → Option RV}
end
end PM
set_option Elab.async false
set_option linter.all false
set_option maxRecDepth 100000
set_option maxHeartbeats 1200000
namespace PM
open PySem PySem.Spec L2
/-- what a body's rule must give -/
abbrev Bod (P : Program) (w : World) (K : PySem.W.Frag) (mg : Str → Option Value) (base : Heap) (k : Nat) (f : Addr) (qual : Str) (scope : Scope) (N : List Str) (cdv : Value) (body : List Stmt) (ms : MS) : Prop :=
  ∀ (A : Around) (outer : List Env) (s : Shared) (H : Hp) (Ee : Ent) (E : XK), Room k (A.deeper (PyProof.Rows.envOfC qual scope s.heap.objs.size f cdv)) → (A.deeper (PyProof.Rows.envOfC qual scope s.heap.objs.size f cdv)).guards = some [] →
      Takes (cxOf (L2.CX P w) P w K mg base N qual scope f cdv A outer s H E) (fun cls d _ H => E cls d H) → SSs (cxOf (L2.CX P w) P w K mg base N qual scope f cdv A outer s H E) Ee (fun cls d _ H => E cls d H) body ms
section
variable {P : Program} {w : World} {K : PySem.W.Frag} {mg : Str → Option Value} {base : Heap} {k : Nat} {f : Addr} {m : Nat} {ks : List Str} {name qual : Str} {params : Arguments} {body : List Stmt} {scope : Scope} {N ps : List Str} {ms : MS} {kws : List (Str × V)} {fd : FuncData}
/-- a def without defaults, called with m places and the keywords ks -/
theorem fn_d (F : FunD K name qual params body scope [] kws f fd) (S : FnScope N ps scope) (pick : ∀ {α : Type}, List α → List α) (hpick : ∀ {α β : Type} (R : α → β → Prop) (xs : List α) (ys : List β), Paired R xs ys → Paired R (pick xs) (pick ys)) (hlen : ∀ {α : Type} (xs : List α), xs.length = m + ks.length → (pick xs).length = ps.length)
    (hb : ∀ (kV doc pm : Value) (an : Option Addr) (cdv ct : Value) (us : List Value), us.length = m + ks.length → bindArgs (PySem.W.fnOf name qual params body scope .none kV doc pm an cdv ct) ⟨us.take m, ks.zip (us.drop m)⟩ = pure (ps.zip (pick us)))
    (hbody : ∀ cdv, Bod P w K mg base k f qual scope N cdv body ms) : FnC P w K mg base (k + 1) f m ks (fun ds store => runF ms (N.length - ps.length) (pick ds) store) := by
  obtain ⟨oc, od, dV, kV, doc, pm, an, cdv, ct, osl, rfl, lk, hcd, hD, _⟩ := F.ex
  rcases hD with ⟨_, rfl⟩ | ⟨e, _⟩
  · exact fn_c (ds0 := []) (dd0 := []) (dv0 := []) pick hpick lk hcd S (fun s us _ hl => .of_eq (hb kV doc pm an cdv ct us hl)) hlen (hbody cdv)
  · exact absurd rfl e
/-- .. all by position -/
theorem fn_p (F : FunD K name qual params body scope [] kws f fd) (S : FnScope N ps scope) (hm : m = ps.length := by rfl)
    (hb : ∀ (kV doc pm : Value) (an : Option Addr) (cdv ct : Value) (us : List Value), us.length = ps.length → bindArgs (PySem.W.fnOf name qual params body scope .none kV doc pm an cdv ct) ⟨us, []⟩ = pure (ps.zip us))
    (hbody : ∀ cdv, Bod P w K mg base k f qual scope N cdv body ms) : FnC P w K mg base (k + 1) f m [] (runF ms (N.length - ps.length)) := by
  subst hm
  refine fn_d (ks := []) F S (fun xs => xs) (fun _ _ _ h => h) (fun xs h => h) (fun kV doc pm an cdv ct us hl => ?_) hbody
  have e : us.take ps.length = us := List.take_of_length_le (by rw [hl]; exact Nat.le_refl _)
  rw [e]
  exact hb kV doc pm an cdv ct us hl
end
/-! ### def f(a, *b) -/
/-! ### the end of a law -/
section
open PySem.W
theorem rvs_ints {K : Frag} {φ : List Addr} {I : Hp} : ∀ ns : List Int, Rvs K φ I (ns.map D.int) (ns.map V.int)
  | [] => .nil
  | n :: ns => .cons (.int n) (rvs_ints ns)
end
end PM
set_option Elab.async false
set_option linter.all false
set_option maxRecDepth 100000
set_option maxHeartbeats 1200000
namespace PM
open PySem PySem.Spec L2
/-- the number at a slot -/
def natAt (st : State) (i : Nat) : Nat := match st.env[i]? with
  | some (.sh (.int z)) => z.natAbs
  | _ => 0
theorem FnC.stuck {P : Program} {w : World} {K : PySem.W.Frag} {mg : Str → Option Value} {base : Heap} {k : Nat} {f : Addr} {m : Nat} {ks : List Str} : FnC P w K mg base k f m ks (fun _ _ => .stuck) :=
  fun _ _ _ _ _ _ _ _ _ _ _ _ _ ⟨_, _, _, _, _, _, h⟩ => h.elim
theorem hq_of {A : Around} {k : Nat} (hr : Room k A) : A.units + 64 < cLine := by have := hr.un; omega
theorem hi_of {A : Around} {k : Nat} (hr : Room k A) : A.units + 65 < cLine := by have := hr.un; omega
end PM
set_option Elab.async false
set_option linter.all false
set_option maxRecDepth 100000
set_option maxHeartbeats 1200000
namespace PM
open PySem PySem.Spec L2
/-! ### instances: their fields -/
def thing (st : State) : RV → Option (Str × List (Str × D))
  | .sh (.rcd C fs) => some (C, fs)
  | .sh (.obj n) => match st.store[n]? with
    | some (.ins C fs) => some (C, fs)
    | _ => none
  | _ => none
def putD (f : Str) (d : D) : List (Str × D) → List (Str × D)
  | [] => [(f, d)]
  | (g, x) :: r => if g = f then (g, d) :: r else (g, x) :: putD f d r
section
variable {K : PySem.W.Frag} {E : Ent} {σ : L2.St} {H H' : Hp} {st st' : State} {φ φ' : List Addr} {I I' : Hp}
theorem lookup_rel {f : Str} {d : D} : ∀ {fs : List (Str × D)} {us : List (Str × V)}, us.map (·.1) = fs.map (·.1) → Rvs K φ I (fs.map (·.2)) (us.map (·.2)) → fs.lookup f = some d → ∃ v, us.lookup f = some v ∧ Rv K φ I d v
  | [], _, _, _, e => by cases e
  | _ :: _, [], h, _, _ => by cases h
  | (g, x) :: fs, (g', y) :: us, h, hr, e => by
    simp only [List.map_cons, List.cons.injEq] at h hr
    obtain ⟨rfl, h⟩ := h
    cases hr with
    | cons h1 h2 =>
      rw [List.lookup_cons] at e ⊢
      cases q : (f == g') with
      | true => rw [q] at e; cases e; exact ⟨y, rfl, h1⟩
      | false => rw [q] at e; exact lookup_rel h h2 e
theorem Rr.thing {r : RV} {v : V} {C : Str} {fs : List (Str × D)} (hr : Rr K E σ H st φ I r v) (S : Stp σ H st φ I H' st' φ' I') (R : Rp K E σ H' st' φ' I') (h : thing st' r = some (C, fs)) :
    ∃ a dx us, v = .ref a ∧ H' a = some (.ins (He.ga K C) dx us) ∧ us.map (·.1) = fs.map (·.1) ∧ Rvs K φ' I' (fs.map (·.2)) (us.map (·.2)) := by
  cases r with
  | ow c => cases h
  | lo i => cases h
  | sh d =>
    have hr' : Rv K φ' I' d v := (show Rv K φ I d v from hr).mono S.pf S.ii
    cases d <;> try (cases h; done)
    · rename_i n
      simp only [PM.thing] at h
      cases q : st'.store[n]? with
      | none => rw [q] at h; cases h
      | some c =>
        rw [q] at h
        cases c <;> try (cases h; done)
        cases h
        cases hr' with
        | obj e =>
          rename_i a
          rcases R.cells n _ a q e with z | ⟨o, g1, g2, g3⟩
          · cases z
          · cases g3 with
            | ins g4 g5 => exact ⟨a, _, _, rfl, g1, g4, g5⟩
    · cases h
      cases hr' with
      | rcd e1 e2 e3 => exact ⟨_, _, _, rfl, R.ext _ _ e1, e2, e3⟩
end
/-- e.f, e an instance of one of these classes -/
def mFld (Cs : List Str) (f : Str) (a : M RV) : M RV := a.bor.bind fun r st => match thing st r with
  | some (C, fs) => if Cs.contains C then (match fs.lookup f with
    | some d => .ok (.sh d) st
    | none => .stuck) else .stuck
  | none => .stuck
def putFC (Cs : List Str) (f : Str) (d : D) : Cell → Option (D × Cell)
  | .ins C fs => if Cs.contains C ∧ fs.length < 1000 then some (.non, .ins C (putD f d fs)) else none
  | _ => none
/-- o.f = e -/
def mSetF (Cs : List Str) (f : Str) (o v : M RV) : MS := v.frz.then fun d => o.bor.then fun r st => match upC (putFC Cs f d) r.bor st with
  | some (_, st') => .nx st'
  | none => .stuck
/-! ### making -/
/-- C(args), by F, the worth of its __init__ -/
def mMake (C : Str) (n : Nat) (F : Fn) (args : M (List D)) : M RV := args.bind fun ds st => if ds.length = n then (match F (.obj st.store.length :: ds) (st.store ++ [.ins C []]) with
  | .ret (.sh .non) store' => .ok (.sh (.obj st.store.length)) { st with store := store' }
  | .exc c store' => .exc c { st with store := store' }
  | _ => .stuck) else .stuck
/-! ### an instance that no longer changes -/
/-- the last-made thing, from now on as it is -/
def mFz (m : M RV) : M RV := m.bind fun r st => match r with
  | .sh (.obj n) => (match st.store[n]? with
    | some (.ins C fs) => .ok (.sh (.rcd C fs)) { st with store := st.store.set n .dead }
    | _ => .stuck)
  | _ => .stuck
end PM
set_option Elab.async false
set_option linter.all false
set_option maxRecDepth 100000
set_option maxHeartbeats 1200000
namespace PM
open PySem PySem.Spec L2
section
variable {X : Cx} {E : Ent} {W : WX} {pos p : Pos} {k : Nat}
theorem sp_of {K : PySem.W.Frag} {σ : L2.St} {H : Hp} {st : State} {φ : List Addr} {I : Hp} {F : Fn} {ds : List D} {vs : List V} {Q : VK} (R : Rp K E σ H st φ I) (hv : Rvs K φ I ds vs)
    (q : Po K E W σ (ofF st (F ds st.store)) H st φ I fun r H' st' φ' I' => ∀ v, Rr K E σ H' st' φ' I' r v → Nw σ H st r v → Q v H') : spOf K F vs H Q (WE W σ) := by
  refine ⟨ds, st.store, φ, I, R.ask, hv, ?_⟩
  cases e : F ds st.store with
  | stuck => rw [e] at q; exact q.elim
  | exc c store' =>
    rw [e] at q
    intro d H' φ' I' B hx
    obtain ⟨R2, S2⟩ := R.after B
    exact q d H' φ' I' S2 R2 (Rx.after R hx)
  | ret r store' =>
    rw [e] at q
    intro v H' φ' I' B hr
    obtain ⟨R2, S2⟩ := R.after B
    cases r with
    | lo i => exact q.elim
    | sh d =>
      obtain ⟨hr', hn'⟩ := Rr.after R hr (fun i z => by cases z)
      exact q H' φ' I' S2 R2 v hr' hn'
    | ow c =>
      obtain ⟨hr', hn'⟩ := Rr.after R hr (fun i z => by cases z)
      exact q H' φ' I' S2 R2 v hr' hn'
/-! ### operators of instances -/
/-- both instances of one class -/
def same2 (st : State) : RV → RV → Option (Str × D × D)
  | .sh x, .sh y => (thing st (.sh x)).bind fun p => (thing st (.sh y)).bind fun q => if p.1 = q.1 then some (p.1, x, y) else none
  | _, _ => none
def ownC (tab : List (Str × Fn)) (C : Str) (ds : List D) : M RV := fun st => match tab.lookup C with
  | some F => ofF st (F ds st.store)
  | none => .stuck
/-- a op b: instances by their class's def, else by g -/
def mBin (tab : List (Str × Fn)) (g : D → D → Option RV) (a b : M RV) : M RV := a.bor.bind fun r => b.bor.bind fun s st => match same2 st r s with
  | some (C, x, y) => ownC tab C [x, y] st
  | none => at2 g r s st
variable {a b : Expr} {ma mb : M RV} {g : D → D → Option RV} {tab : List (Str × Fn)}
/-! ### comparisons of instances -/
def okB (r : RV) : M Bool := fun st => match r with
  | .sh (.bl b) => .ok b st
  | _ => .stuck
def mCmp2 (tab : List (Str × Fn)) (g : D → D → Option Bool) (a b : M RV) : M Bool := a.bor.bind fun r => b.bor.bind fun s st => match same2 st r s with
  | some (C, x, y) => (ownC tab C [x, y]).bind okB st
  | none => at2 g r s st
variable {gb : D → D → Option Bool}
/-! ### x in o -/
/-- x in o, o an instance; else by g -/
def mIn2 (tab : List (Str × Fn)) (g : D → D → Option Bool) (a b : M RV) : M Bool := a.bor.bind fun r => b.bor.bind fun s st => match thing st s with
  | some (C, _) => (match r, s with
    | .sh x, .sh y => (ownC tab C [y, x]).bind okB st
    | _, _ => .stuck)
  | none => at2 g r s st
/-! ### an instance as a test -/
/-- the truth of a bool; of an instance by its class's def -/
def mTru (tab : List (Str × Fn)) (a : M RV) : M Bool := a.bor.bind fun r st => match thing st r with
  | some (C, _) => (match r with
    | .sh x => (ownC tab C [x]).bind okB st
    | _ => .stuck)
  | none => okB r st
end
end PM
set_option Elab.async false
set_option linter.all false
set_option maxRecDepth 100000
set_option maxHeartbeats 1200000
namespace PM
open PySem PySem.Spec L2
/-! ### o.m(args) -/
def callN (n : Nat) (F : Fn) (x : D) (args : M (List D)) : M RV := args.bind fun ds st => if ds.length = n then ofF st (F (x :: ds) st.store) else .stuck
def mMeth (tab : List (Str × Fn)) (m : Str) (n : Nat) (o : M RV) (args : M (List D)) : M RV := o.bor.bind fun r st => match r with
  | .sh x => (match thing st (.sh x) with
    | some (C, fs) => if (fs.lookup m).isNone then (match tab.lookup C with
      | some F => callN n F x args st
      | none => .stuck) else .stuck
    | none => .stuck)
  | _ => .stuck
/-! ### what a built-in calls -/
/-! ### e.f, a property -/
/-- no error is let out -/
def noX {α : Type} (m : M α) : M α := fun st => match m st with
  | .exc _ _ => .stuck
  | .ok r st' => .ok r st'
  | .stuck => .stuck
def mProp (tab : List (Str × Fn)) (o : M RV) : M RV := o.bor.bind fun r st => match r with
  | .sh x => (match thing st (.sh x) with
    | some (C, _) => noX (ownC tab C [x]) st
    | none => .stuck)
  | _ => .stuck
/-! ### a op1 b op2 c -/
def mCh (g g' : D → D → Option Bool) (a b c : M RV) : M Bool := a.bor.bind fun r => b.bor.bind fun s => (at2 g r s).bind fun t => if t then c.bor.bind fun u => at2 g' s u else M.pure false
end PM
set_option Elab.async false
set_option linter.all false
set_option maxRecDepth 100000
set_option maxHeartbeats 1200000
namespace PM
open PySem PySem.Spec L2
/-! ### a class as a value -/
section
variable {X : Cx} {E : Ent} {W : WX} {pos p apos : Pos} {k m : Nat} {C : Str} {f g r0 : Addr} {mc : Value} {F : Fn} {x nm : Str} {o e : Expr} {es : List Expr} {ma : M (List D)}
theorem sr_cls (hg : Gl X x) (hm : X.mg x = some (.ref (He.ga X.K C))) (hd : (x == ("__debug__" : Str)) = false := by decide) : SR X E W (.Name x pos) (mL (.cls C)) := sr_lit (pe_glob (v := .ref (He.ga X.K C)) hg hm rfl hd) fun _ _ => .cls _
/-- C.m(args), m a classmethod -/
def mCm (C : Str) (n : Nat) (F : Fn) (args : M (List D)) : M RV := args.bind fun ds st => if ds.length = n then ofF st (F (.cls C :: ds) st.store) else .stuck
/-- cls(args), the slot i holds C -/
def mMakeL (i : Nat) (C : Str) (n : Nat) (F : Fn) (args : M (List D)) : M RV := fun st => match st.env[i]? with
  | some (.sh (.cls B)) => if B = C then mMake C n F args st else .stuck
  | _ => .stuck
end
/-! ### isinstance, with instances and classes of the text -/
/-- what is asked for: a class of the text, or a built-in one -/
inductive Tgt where
  | own (B : Str) | ty (T : String)
deriving DecidableEq
def Tgt.val (K : PySem.W.Frag) : Tgt → Value
  | .own B => .ref (He.ga K B)
  | .ty T => .type T
abbrev IsiT := List ((Str × Tgt) × Bool)
/-- an own class whose instances are asked plainly -/
def clsOkB (K : PySem.W.Frag) (C : Addr) : Bool := decide (PySem.W.findIn K (.ref C) "__class__" = some (some (.builtin "object.__class__"))) && (decide (PySem.W.specialIn K (.builtin "object.__class__") "__get__" = some (some (.builtin "getset_descriptor.__get__"))) &&
  (decide (PySem.W.takesIn K (.builtin "object.__class__") = some true) && decide (PySem.W.mroIn K C (.type "object") = some true)))
def isiCB (C : Str) (K : PySem.W.Frag) : Bool := clsOkB K (He.ga K C)
def isiRB (C : Str) (t : Tgt) (b : Bool) (K : PySem.W.Frag) : Bool := decide (PySem.W.kitOne K (.ref (He.ga K C)) (t.val K) = some b)
def isiDB (B : Str) (K : PySem.W.Frag) : Bool := ["NoneType", "bool", "int", "str", "tuple", "list", "dict"].all (fun T => decide (PySem.W.kitOne K (.type T) (.ref (He.ga K B)) = some false))
def tgtOf : RV → Option Tgt
  | .sh (.cls B) => some (.own B)
  | .sh (.val (.ty T)) => some (.ty T)
  | _ => none
def opIsi2 (bs : List Str) (x y : D) : Option RV := match y with
  | .cls B => if bs.contains B then (opKind x).map fun _ => .sh (.bl false) else none
  | _ => opIsi x y
/-- isinstance(a, b): own instances by the table tab; data are no instances of bs -/
def mIsi (tab : IsiT) (bs : List Str) (a b : M RV) : M RV := a.bor.bind fun r => b.bor.bind fun s st => match thing st r with
  | some (C, _) => (match (tgtOf s).bind fun t => tab.lookup (C, t) with
    | some c => .ok (.sh (.bl c)) st
    | none => .stuck)
  | none => at2 (opIsi2 bs) r s st
theorem opKind_in {x : D} {T : String} (h : opKind x = some T) : T ∈ ["NoneType", "bool", "int", "str", "tuple", "list", "dict"] := by
  cases x <;> simp only [opKind, Option.some.injEq, reduceCtorEq] at h <;> subst h <;> decide
/-- the table's rows are true -/
def IsiOk (K : PySem.W.Frag) (tab : IsiT) : Prop := ∀ C t b, tab.lookup (C, t) = some b → Cls K (He.ga K C) ∧ isiCB C K = true ∧ isiRB C t b K = true
def IsiDOk (K : PySem.W.Frag) (bs : List Str) : Prop := ∀ B ∈ bs, isiDB B K = true
section
variable {X : Cx} {E : Ent} {W : WX} {pos p : Pos} {x : Str} {a b : Expr} {ma mb : M RV} {tab : IsiT} {bs : List Str}
theorem cl_isi2 (hb : IsiDOk X.K bs) : CallR X (.builtin "isinstance") (rdC2 X.K E (opIsi2 bs)) := call_cases fun vs H Q ⟨v, w, e0, σ, st, φ, I, x, y, r, R, hx, hy, e, q⟩ => by
  by_cases hy2 : ∃ B, y = .cls B
  · obtain ⟨B, rfl⟩ := hy2
    simp only [opIsi2] at e
    by_cases hB : bs.contains B = true
    · rw [if_pos hB] at e
      obtain ⟨T, e1, rfl⟩ := Option.map_eq_some_iff.mp e
      have hw : w = .ref (He.ga X.K B) := by
        rcases hy with hy | ⟨a, c, _, e, _⟩
        · cases hy; rfl
        · cases c <;> cases e
      subst e0 hw
      have h2 := of_decide_eq_true (List.all_eq_true.mp (hb B (by simpa using hB)) T (opKind_in e1))
      exact ⟨_, call_isi, v, .ref (He.ga X.K B), _, _, false, rfl, .own _, opKind_ty R.ext hx e1, h2, q.sh R (.bl _)⟩
    · rw [if_neg hB] at e
      cases e
  · have e2 : opIsi x y = some r := by
      unfold opIsi2 at e
      split at e
      · exact absurd ⟨_, rfl⟩ hy2
      · exact e
    exact ⟨_, cl_isi, v, w, e0, σ, st, φ, I, x, y, r, R, hx, hy, e2, q⟩
theorem tgt_cls {K : PySem.W.Frag} {E : Ent} {σ : L2.St} {H : Hp} {st : State} {φ : List Addr} {I : Hp} {s : RV} {w : V} {t : Tgt} (h : Rr K E σ H st φ I s w) (e : tgtOf s = some t) : ClsV w (t.val K) := by
  cases s with
  | ow c => cases e
  | lo i => cases e
  | sh d =>
    cases d <;> try (cases e; done)
    · cases e
      cases (show Rv K φ I (.cls _) w from h)
      exact .own _
    · rename_i v2
      cases v2 <;> try (cases e; done)
      cases e
      cases (show Rv K φ I (.val (.ty _)) w from h)
      exact .ty _
end
end PM
set_option Elab.async false
set_option linter.all false
set_option maxRecDepth 100000
set_option maxHeartbeats 1200000
namespace PM
open PySem PySem.Spec L2
/-! ### a, b, .. = a list or a tuple -/
def gTL (n : Nat) (r : List D → State → Option State) : D → State → Option State := fun d st => match d with
  | .lst ds => if ds.length = n then r ds st else none
  | .lsF ds => if ds.length = n then r ds st else none
  | _ => none
/-! ### star in a display, in arguments -/
def mStar (a : M RV) (r : M (List D)) : M (List D) := a.frz.bind fun d => (M.ofO (asSeq d)).bind fun xs => r.bind fun ys => M.pure (xs ++ ys)
section
variable {X : Cx} {E : Ent} {W : WX} {pos p : Pos} {a : Expr} {es : List Expr} {ma : M RV} {mr : M (List D)}
theorem Rvs.app {K : PySem.W.Frag} {φ : List Addr} {I : Hp} : ∀ {xs ys : List D} {vs ws : List V}, Rvs K φ I xs vs → Rvs K φ I ys ws → Rvs K φ I (xs ++ ys) (vs ++ ws)
  | _, _, _, _, .nil, h => h
  | _, _, _, _, .cons h1 h2, h => .cons h1 (Rvs.app h2 h)
end
/-! ### a list times a number -/
theorem Rvs.rep {K : PySem.W.Frag} {φ : List Addr} {I : Hp} {xs : List D} {vs : List V} (h : Rvs K φ I xs vs) : ∀ n : Nat, Rvs K φ I (List.replicate n xs).flatten (List.replicate n vs).flatten
  | 0 => .nil
  | n + 1 => by
    rw [List.replicate_succ, List.replicate_succ, List.flatten_cons, List.flatten_cons]
    exact Rvs.app h (Rvs.rep h n)
/-! ### zip of two lists, two tuples -/
def pairs2 (xs ys : List D) : List D := (xs.zip ys).map fun p => .tup [p.1, p.2]
def zip2 (x y : D) : Option (List D) := match asL x, asL y with
  | some xs, some ys => some (pairs2 xs ys)
  | _, _ => match asT x, asT y with
    | some xs, some ys => some (pairs2 xs ys)
    | _, _ => none
def mZip (a b : M RV) : M (List D) := a.frz.bind fun x => b.frz.bind fun y => M.ofO (zip2 x y)
end PM
set_option Elab.async false
set_option linter.all false
set_option maxRecDepth 100000
set_option maxHeartbeats 1200000
namespace PM
open PySem PySem.Spec L2
/-! ### bool(x) -/
def opBool : D → Option RV
  | .bl b => some (.sh (.bl b))
  | .int i => some (.sh (.bl (i != 0)))
  | _ => none
def mBoolC (tab : List (Str × Fn)) (a : M RV) : M RV := a.bor.bind fun r st => match r with
  | .sh x => (match thing st (.sh x) with
    | some (C, _) => ((noX (ownC tab C [x])).bind fun r => (okB r).bind fun b => M.pure (.sh (.bl b))) st
    | none => at1 opBool r st)
  | _ => at1 opBool r st
end PM
set_option Elab.async false
set_option linter.all false
set_option maxRecDepth 100000
set_option maxHeartbeats 1200000
namespace PM
open PySem PySem.Spec L2
/-! ### facts of the head, as tests of a part of the heap; defs by where they stand -/
abbrev Fb : Type := PySem.W.Frag → Bool
structure DefP where
  adr : PySem.W.Frag → Addr
  name : Str
  qual : Str
  params : Arguments
  body : List Stmt
  scope : Scope
  dvs : List V := []
  kws : List (Str × V) := []
def fnA (K : PySem.W.Frag) (a : Addr) : He.FnW := match K.lookup a with
  | some ⟨_, _, .func fd, _⟩ => some (fd.name, fd.qualname, fd.params, fd.body, fd.scope, fd.globals, fd.closure, fd.builtins)
  | _ => none
def DefP.val (d : DefP) : He.FnW := some (d.name, d.qual, d.params, .stmts d.body, d.scope, mainGlobals, [], builtinsNs)
def DefP.ok (K : PySem.W.Frag) (d : DefP) : Bool := PySem.W.keepIn K (.ref (d.adr K)) && (match K.lookup (d.adr K) with
  | some ⟨_, _, .func fd, _⟩ => PySem.W.codeIn K fd.code d.qual && (He.dflB K fd.defaults d.dvs && He.kwdB K fd.kwdefaults d.kws)
  | _ => false)
theorem DefP.funD {K : PySem.W.Frag} {d : DefP} (e : fnA K (d.adr K) = d.val) (c : d.ok K = true) : ∃ fd, FunD K d.name d.qual d.params d.body d.scope d.dvs d.kws (d.adr K) fd := by
  obtain ⟨kp, c2⟩ := He.ba c
  unfold fnA at e
  cases q : K.lookup (d.adr K) with
  | none =>
    rw [q] at c2
    cases c2
  | some o =>
    obtain ⟨oc, od, dt, osl⟩ := o
    rw [q] at c2 e
    cases dt with
    | func fd =>
      obtain ⟨n1, n2, n3, n4, n5, n6, n7, n8, n9, n10, n11, n12, n13, n14, n15⟩ := fd
      have e2 : (some (n1, n2, n3, n4, n5, n6, n7, n15) : He.FnW) = some (d.name, d.qual, d.params, .stmts d.body, d.scope, mainGlobals, [], builtinsNs) := e
      simp only [Option.some.injEq, Prod.mk.injEq] at e2
      obtain ⟨h1, h2, h3, h4, h5, h6, h7, h8⟩ := e2
      subst h1 h2 h3 h4 h5 h6 h7 h8
      have c3 : (PySem.W.codeIn K n13 d.qual && (He.dflB K n8 d.dvs && He.kwdB K n9 d.kws)) = true := c2
      obtain ⟨k1, k2⟩ := He.ba c3
      obtain ⟨k3, k4⟩ := He.ba k2
      exact ⟨_, ⟨oc, od, n8, n9, n10, n11, n12, n13, n14, osl, rfl, q, k1, He.dflB_ok k3, He.kwdB_ok k4⟩, kp⟩
    | _ => cases c2
def obsP (fa : List Fb) (fn : List DefP) (K : PySem.W.Frag) : He.AlD := ((fa.all fun f => f K) && fn.all fun d => d.ok K, fn.map fun d => fnA K (d.adr K))
def valP (fn : List DefP) : He.AlD := (true, fn.map DefP.val)
def SaysP (fa : List Fb) (fn : List DefP) (K : PySem.W.Frag) : Prop := obsP fa fn K = valP fn
section
variable {fa : List Fb} {fn : List DefP} {K : PySem.W.Frag}
theorem SaysP.fact (c : SaysP fa fn K) (i : Nat) {f : Fb} (h : fa[i]? = some f := by rfl) : f K = true := by
  have c1 := (He.ba (show ((fa.all fun f => f K) && fn.all fun d => d.ok K) = true from congrArg (fun z : He.AlD => z.1) c)).1
  exact List.all_eq_true.mp c1 f (List.mem_of_getElem? h)
theorem SaysP.def_ (c : SaysP fa fn K) (i : Nat) {d : DefP} (h : fn[i]? = some d := by rfl) : ∃ fd, FunD K d.name d.qual d.params d.body d.scope d.dvs d.kws (d.adr K) fd := by
  have c2 := (He.ba (show ((fa.all fun f => f K) && fn.all fun d => d.ok K) = true from congrArg (fun z : He.AlD => z.1) c)).2
  have e : fn.map (fun d => fnA K (d.adr K)) = fn.map DefP.val := congrArg (fun z : He.AlD => z.2) c
  have e2 : (fn.map fun d => fnA K (d.adr K))[i]? = (fn.map DefP.val)[i]? := by rw [e]
  rw [List.getElem?_map, List.getElem?_map, h] at e2
  exact DefP.funD (Option.some.inj e2) (List.all_eq_true.mp c2 d (List.mem_of_getElem? h))
end
/-! ### facts of classes -/
end PM
set_option Elab.async false
set_option linter.all false
set_option maxRecDepth 100000
set_option maxHeartbeats 1200000
namespace PM
open PySem PySem.Spec L2
/-! ### min, max of two ints -/
section
variable {X : Cx} {E : Ent}
/-- a statement of a class's body -/
def inCls (t : Stmt) (j : Nat) : Stmt := match t with
  | .ClassDef _ _ _ body _ _ _ _ _ _ _ => body.getD j (.Pass ⟨0, 0, 0, 0⟩)
  | _ => .Pass ⟨0, 0, 0, 0⟩
end
end PM
set_option Elab.async false
set_option linter.all false
set_option maxRecDepth 100000
set_option maxHeartbeats 1200000
namespace PM
open PySem PySem.Spec L2 PyProof.Rows
/-! ### built-in exceptions that own classes stand straight over -/
/-- B's own __init__ -/
structure IniF (B initId : String) : Prop where
  kind : builtinKind initId = some .slot
  split : splitId initId = some (B, "__init__")
  row : Manifest.signature? initId = some ⟨.positional, "*", B, .self, [⟨"args", .varPos, false⟩]⟩
  noStar : (B != "*") = true
  init : PySem.Slot B "__init__" initId
  entry : entryFor table initId = some Builtin.«BaseException.__init__»
/-- B, whose instances newId makes (its own, or a base's) -/
structure BxF (B newId initId : String) (bm : List Value) : Prop where
  new : ∃ Bn initN bmN, ExcBaseFacts Bn newId initN bmN ∧ bm.contains (.type Bn) = true
  noA : bm.contains (.type "AttributeError") = false
  noN : bm.contains (.type "NameError") = false
  self : bm.contains (.type B) = true
  ini : IniF B initId
  store : StoreFacts B bm "object.__setattr__" "object"
theorem IniF.of {B newId initId : String} {bm : List Value} (F : ExcBaseFacts B newId initId bm) : IniF B initId := ⟨F.initKind, F.initSplit, F.initRow, F.noStar, F.init, F.initEntry⟩
theorem BxF.of {B newId initId : String} {bm : List Value} (F : ExcBaseFacts B newId initId bm) (S : StoreFacts B bm "object.__setattr__" "object") : BxF B newId initId bm := ⟨⟨B, initId, bm, F, F.hasB⟩, F.noAttr, F.noName, F.hasB, .of F, S⟩
/-- what the part of the heap says of an own class C straight over B: C's fields are none of its class's names -/
structure XcF (K : PySem.W.Frag) (B newId initId : String) (bm : List Value) (C : Addr) : Prop where
  b : BxF B newId initId bm
  shape : PySem.W.excInitIn K C bm newId = true
  over : PySem.W.excOver K C bm = true
  dct : PySem.W.hasDictIn K C = true
  sa : PySem.W.findIn K (.ref C) "__setattr__" = some (some (.builtin "object.__setattr__"))
  exC : PySem.W.subIn K (.ref C) (.type "BaseException") = some true
  tyC : PySem.W.typeIn K (.ref C) = some (.type "type")
  kC : PySem.W.keepIn K (.ref C) = true
section
open Builtin Builtin.ObjectAttr
variable {prog : Program} {w : World} {A : Around} {E : Value → Shared → Prop} {R : Result → Shared → Prop} {hp : Heap} {g : Array GenState} {d : Drawn} {t : Nat} {os : OsState} {B newId initId : String} {bm : List Value} {K : W.Frag} {x C : Addr}
theorem taker_none {f : Str} (h : PySem.W.findIn K (.ref C) f = some none) : PySem.W.takerIn K C f = some none := by
  unfold PySem.W.takerIn
  rw [h]
  rfl
theorem cls_of_dct (h : PySem.W.hasDictIn K C = true) : ∃ cd, PySem.W.clsIn K C = some cd ∧ cd.hasDict = true := by
  obtain ⟨cd, h1, h2⟩ := PySem.W.any_some h
  exact ⟨cd, h1, h2⟩
/-- self.f = v: the first field -/
theorem xosa_new {f : Str} {tk : Tok} {v : Value} {fv : Array Value} (T : XcF K B newId initId bm C) (X : K.In hp) (hx : hp.get? x = some { cls := .ref C, data := .fields fv }) (hf : PySem.W.findIn K (.ref C) f = some none)
    (hq : ∀ h' tk' dx, (∀ b o, b ≠ x → hp.get? b = some o → h'.get? b = some o) → hp.objs.size ≤ dx → dx ≠ x → h'.get? x = some { cls := .ref C, dict := some dx, data := .fields fv } →
      h'.Ns1 dx (fun y => if y = f then some v else none) → R (.ok (.ret .none)) ⟨h', g, d, tk', os⟩) :
    codeAny (model prog w) A (.call (.builtin "object.__setattr__") ⟨[.ref x, .str f tk, v], []⟩) R ⟨hp, g, d, t, os⟩ := by
  obtain ⟨cd, hcd, hh⟩ := cls_of_dct T.dct
  have I : PySem.W.InstAt hp x { cls := .ref C, data := .fields fv } C none := ⟨hx, rfl, rfl, trivial⟩
  have ne : x ≠ hp.objs.size := Nat.ne_of_lt (Heap.lt_size hx)
  have lc : PySem.W.Looks (model prog w) hp (classData C) cd := PySem.W.looks_clsIn X hcd
  refine PySem.W.osa_openX (s := ⟨hp, g, d, t, os⟩) T.b.store X I T.over (taker_none hf) fun bb => ?_
  show wpAny _ _ (storeInOwnDict (.ref x) (.ref C) (.str f tk) f v bb) _ _ _
  obtain ⟨nm, bs, mro, ns, qn, hd, sn, sb, ab, col, del⟩ := cd
  dsimp only at hh
  subst hh
  unfold storeInOwnDict ownDictForStores
  repeat (first | with_reducible refine PySem.HandSPX.store_in_new ?_ ?_ | with_reducible refine wpAny_loadPart_at hx ?_ | with_reducible refine lc.at ?_ | wp_step)
  · exact ⟨_, #[], _, (Heap.get?_update_ne _ _ _ _ ne.symm).trans (Heap.get?_push_at rfl rfl), rfl, fun e he => absurd he (by simp), fun _ => rfl⟩
  · intro h1 tk1 hn1 hs1
    have hx1 : (hp.push { cls := .type "dict", data := .dict #[] }).get? x = some { cls := .ref C, data := .fields fv } := Heap.get?_push_of_some _ hx
    refine hq h1 tk1 hp.objs.size (fun b o hb ho => ?_) (Nat.le_refl _) ne.symm ((hs1.2 x ne).trans (Heap.get?_update_self _ hx1 rfl)) hn1
    exact (hs1.2 b (Nat.ne_of_lt (Heap.lt_size ho))).trans ((Heap.get?_update_ne _ _ _ _ hb).trans (Heap.get?_push_of_some _ ho))
/-- .. a further one -/
theorem xosa_old {f : Str} {tk : Tok} {v : Value} {dx : Addr} {fv : Array Value} {m0 : Str → Option Value} {nl : List Str} (T : XcF K B newId initId bm C) (X : K.In hp) (hx : hp.get? x = some { cls := .ref C, dict := some dx, data := .fields fv })
    (hns : hp.Ns1 dx m0) (hw : Within m0 nl) (hz : nl.length ≤ 1000) (hf : PySem.W.findIn K (.ref C) f = some none)
    (hq : ∀ h' tk', (∀ b o, b ≠ dx → hp.get? b = some o → h'.get? b = some o) → h'.Ns1 dx (fun y => if y = f then some v else m0 y) → R (.ok (.ret .none)) ⟨h', g, d, tk', os⟩) :
    codeAny (model prog w) A (.call (.builtin "object.__setattr__") ⟨[.ref x, .str f tk, v], []⟩) R ⟨hp, g, d, t, os⟩ := by
  obtain ⟨cd, hcd, hh⟩ := cls_of_dct T.dct
  obtain ⟨oD, esD, epD, hoD, hdD, _⟩ := hns.count hw
  have I : PySem.W.InstAt hp x { cls := .ref C, dict := some dx, data := .fields fv } C (some oD) := ⟨hx, rfl, rfl, hoD⟩
  have lc : PySem.W.Looks (model prog w) hp (classData C) cd := PySem.W.looks_clsIn X hcd
  refine PySem.W.osa_openX (s := ⟨hp, g, d, t, os⟩) T.b.store X I T.over (taker_none hf) fun bb => ?_
  show wpAny _ _ (storeInOwnDict (.ref x) (.ref C) (.str f tk) f v bb) _ _ _
  obtain ⟨nm, bs, mro, ns, qn, hd, sn, sb, ab, col, del⟩ := cd
  dsimp only at hh
  subst hh
  unfold storeInOwnDict ownDictForStores
  repeat (first | with_reducible refine PySem.OEX.store_in_old hns hw hz ?_ | with_reducible refine wpAny_loadPart_at hx ?_ | with_reducible refine lc.at ?_ | wp_step)
  intro h1 tk1 hn1 hs1
  exact hq h1 tk1 (fun b o hb ho => (hs1.2 b hb).trans ho) hn1
end
/-! ### C(..): newId, then the own __init__ -/
section
variable {prog : Program} {w : World} {A : Around} {E : Value → Shared → Prop} {R : Result → Shared → Prop} {h : Heap} {g : Array GenState} {d : Drawn} {t : Nat} {os : OsState} {nm q : Str} {C N fI : Addr} {bs bm bmC bmN : List Value} {hdct ab : Bool} {sn : List Str} {sub : List Value} {col : Option Bool} {dd : Option Addr} {k0 k1 k2 k3 k5 : Option Value} {B Bn newId initId initN : String} {rest : List Value}
theorem xnew_check {M : Model} {Q : Unit → Shared → Prop} (F : ExcBaseFacts Bn newId initN bmN) (hB : bmC.contains (.type Bn) = true) (hC : h.get? C = some (excClassObj nm q C N bs bmC hdct sn sub ab col dd k0 k1 k2 k3 k5 newId)) (hq : Q () ⟨h, g, d, t, os⟩) :
    wpAny M A (checkBuiltinCall newId ⟨.ref C :: rest, []⟩) Q E ⟨h, g, d, t, os⟩ := by
  have c1 : (Value.ref C :: bmC).contains (.type Bn) = true := by rw [List.contains_cons, hB, Bool.or_true]
  have c2 := F.noStar
  simp only [checkBuiltinCall, F.newKind, F.newSplit, F.newRow]
  repeat (first | refine wpAny_loadPart_at hC ?_ | (refine wpAny_isSubtype_exc hC ?_; rw [c1]) | refine wpAny_staticBase_exc hC ?_ | refine wpAny_madeBy_exc hC ?_ | simp only [bne_self_eq_false, Bool.false_eq_true, if_false] | wp_step)
  exact hq
theorem xinit_check {M : Model} {Q : Unit → Shared → Prop} {e : Addr} {oe : Obj} (F : IniF B initId) (hB : bmC.contains (.type B) = true) (hC : h.get? C = some (excClassObj nm q C N bs bmC hdct sn sub ab col dd k0 k1 k2 k3 k5 newId)) (he : h.get? e = some oe) (hcls : oe.cls = .ref C) (hq : Q () ⟨h, g, d, t, os⟩) :
    wpAny M A (checkBuiltinCall initId ⟨.ref e :: rest, []⟩) Q E ⟨h, g, d, t, os⟩ := by
  have c1 : (Value.ref C :: bmC).contains (.type B) = true := by rw [List.contains_cons, hB, Bool.or_true]
  have c2 := F.noStar
  simp only [checkBuiltinCall, F.kind, F.split, F.row]
  repeat (first | (with_reducible refine wpAny_loadPart_at he ?_; rw [hcls]) | with_reducible refine wpAny_loadPart_at hC ?_ | (with_reducible refine wpAny_isSubtype_exc hC ?_; rw [c1]) | wp_step)
  refine wpAny_onRaise ?_
  rw [show ∀ (a b : String) (n : Nat), Bind.check ⟨.positional, "*", B, .self, [⟨"args", .varPos, false⟩]⟩ a b n (List.map (fun x => x.fst) ({ pos := Value.ref e :: rest } : Args).kw) = pure () from fun a b n => check_star_args _ _ _ _ _ _]
  exact wpAny_pure hq
theorem xnew_run (F : ExcBaseFacts Bn newId initN bmN) (hB : bmC.contains (.type Bn) = true) (hA : bmC.contains (.type "AttributeError") = false) (hN : bmC.contains (.type "NameError") = false) (hC : h.get? C = some (excClassObj nm q C N bs bmC hdct sn sub ab col dd k0 k1 k2 k3 k5 newId))
    (hq : R (.ok (.ret (.ref (h.objs.size + 1)))) ⟨(h.push (PySem.W.kdv_tup rest)).push (PySem.HandSPX.excO C h.objs.size), g, d, t, os⟩) (hz : rest.length ≤ sizeLine) :
    codeAny (model prog w) A (.builtin newId ⟨.ref C :: rest, []⟩) R ⟨h, g, d, t, os⟩ := by
  have e0 := F.ends
  have c1 : (Value.ref C :: bmC).contains (.type Bn) = true := by rw [List.contains_cons, hB, Bool.or_true]
  have c2 : (Value.ref C :: bmC).contains (.type "AttributeError") = false := by rw [List.contains_cons, hA]; rfl
  have c3 : (Value.ref C :: bmC).contains (.type "NameError") = false := by rw [List.contains_cons, hN]; rfl
  refine codeAny_builtinAt F.entry ?_
  unfold Builtin.«BaseException.__new__»
  refine PySem.wpAt_bind ?_
  show PySem.wpAt _ _ _ (stack >>= _) _ _ _
  refine PySem.wpAt_bind (PySem.wpAt_stack fun p below => PySem.wpAt_of_wpAny ?_)
  wp_walk
  refine PySem.wpAt_of_wpAny ?_
  rw [F.owner]
  repeat (first | with_reducible refine wpAny_madeHere_exc F.canon hC ?_ | with_reducible refine wpAny_loadPart_at hC ?_ | (with_reducible refine wpAny_isSubtype_exc hC ?_; first | rw [c1] | rw [c2] | rw [c3]) | wp_step)
  show R _ _
  rw [Heap.size_push]
  exact hq
theorem xtype_call (F : ExcBaseFacts Bn newId initN bmN) (hB : bmC.contains (.type Bn) = true) (hA : bmC.contains (.type "AttributeError") = false) (hN : bmC.contains (.type "NameError") = false) {Q : Fin → Shared → Prop}
    (hC : h.get? C = some (excClassObj nm q C N bs bmC hdct sn sub ab col dd k0 k1 k2 k3 k5 newId)) (hi : PySem.W.Looks (model prog w) h (typeLookup (.ref C) "__init__") (some (.ref fI))) (hb : ∀ self, PySem.W.Looks (model prog w) h (bindSpecial (.ref fI) self) (.ref fI, [self])) (hz : rest.length ≤ sizeLine)
    (hq : codeAny (model prog w) A (.call (.ref fI) ⟨.ref (h.objs.size + 1) :: rest, []⟩) (fun r s' => match r with | .ok (.ret v) => v = .none ∧ Q (.done (.ret (.ref (h.objs.size + 1)))) s' | .ok _ => False | .error e => E e s') ⟨(h.push (PySem.W.kdv_tup rest)).push (PySem.HandSPX.excO C h.objs.size), g, d, t, os⟩) :
    wpAny (model prog w) A (Builtin.«type.__call__» ⟨.ref C :: rest, []⟩) Q E ⟨h, g, d, t, os⟩ := by
  repeat (first | with_reducible refine wpAny_loadPart_at hC ?_ | with_reducible refine wpAny_madeBy_exc hC ?_ | wp_step)
  refine codeAny_call_builtin_code (Code.quiet_builtin _ F.quiet) (xnew_check F hB hC (xnew_run F hB hA hN hC ?_ hz))
  show wpAny _ _ _ _ _ _
  have kk : ∀ b o, h.get? b = some o → ((h.push (PySem.W.kdv_tup rest)).push (PySem.HandSPX.excO C h.objs.size)).get? b = some o := fun b o e => Heap.get?_push_of_some _ (Heap.get?_push_of_some _ e)
  have c1 := kk _ _ hC
  have ge : ((h.push (PySem.W.kdv_tup rest)).push (PySem.HandSPX.excO C h.objs.size)).get? (h.objs.size + 1) = some (PySem.HandSPX.excO C h.objs.size) := by heap_get
  have cc : (Value.ref C :: bmC).contains (.ref C) = true := by simp
  have i1 := hi.keeps kk
  have b1 := (hb (.ref (h.objs.size + 1))).keeps kk
  unfold isInstance
  repeat (first | with_reducible refine wpAny_loadPart_at ge ?_ | (with_reducible refine wpAny_isSubtype_exc c1 ?_; rw [cc]) | wp_step)
  show wpAny _ _ (typeLookup (.ref C) _) _ _ _
  refine i1.at (wpAny_holding (wpAny_bind (b1.at (wpAny_bind (wpAny_call (codeAny_mono hq fun r s' z => ?_))))))
  rcases r with e | (v | _ | _ | _) <;> first | exact z | exact z.elim | skip
  obtain ⟨rfl, z⟩ := z
  first
    | exact wpAny_pure (wpAny_pure z)
    | (wp_walk; exact z)
theorem xcall (F : ExcBaseFacts Bn newId initN bmN) (hB : bmC.contains (.type Bn) = true) (hA : bmC.contains (.type "AttributeError") = false) (hN : bmC.contains (.type "NameError") = false)
    (hC : h.get? C = some (excClassObj nm q C N bs bmC hdct sn sub ab col dd k0 k1 k2 k3 k5 newId)) (hi : PySem.W.Looks (model prog w) h (typeLookup (.ref C) "__init__") (some (.ref fI))) (hb : ∀ self, PySem.W.Looks (model prog w) h (bindSpecial (.ref fI) self) (.ref fI, [self])) (hz : rest.length ≤ sizeLine)
    (hq : codeAny (model prog w) (A.under (.builtin "type.__call__" ⟨.ref C :: rest, []⟩)) (.call (.ref fI) ⟨.ref (h.objs.size + 1) :: rest, []⟩) (PySem.W.InitBack (h.objs.size + 1) R) ⟨(h.push (PySem.W.kdv_tup rest)).push (PySem.HandSPX.excO C h.objs.size), g, d, t, os⟩) :
    codeAny (model prog w) A (.call (.ref C) ⟨rest, []⟩) R ⟨h, g, d, t, os⟩ := by
  have f1 := tc_lookup
  have f2 := tc_bind (.ref C)
  have hTy : (⟨h, g, d, t, os⟩ : Shared).TypeIs (.ref C) "type" := ⟨_, hC, rfl⟩
  refine codeAny_of_tree ?_
  show wpAny _ _ (callAny (.ref C) _) _ _ _
  repeat (any_goals (first | assumption | with_reducible refine wpAny_loadPart_at hC ?_ | wp_step))
  refine ⟨rfl, codeAny_call_builtin_at (Code.quiet_builtin _ (by decide +kernel)) entry_typeCall (wpAny_check_type_call_sub hC (xtype_call F hB hA hN hC hi hb hz (codeAny_mono hq fun r s' z => ?_)))⟩
  rcases r with e | (v | _ | _ | _) <;> exact z
theorem xinit_run {e t0 : Addr} (F : IniF B initId) (hB : bmC.contains (.type B) = true) (hC : h.get? C = some (excClassObj nm q C N bs bmC hdct sn sub ab col dd k0 k1 k2 k3 k5 newId)) (he : h.get? e = some (PySem.HandSPX.excO C t0)) (hz : rest.length ≤ sizeLine)
    (hq : ∀ h' t1, (∀ b o, b ≠ e → h.get? b = some o → h'.get? b = some o) → h'.get? e = some (PySem.HandSPX.excO C t1) → R (.ok (.ret .none)) ⟨h', g, d, t, os⟩) :
    codeAny (model prog w) A (.call (.builtin initId) ⟨.ref e :: rest, []⟩) R ⟨h, g, d, t, os⟩ := by
  refine codeAny_call_builtin F.init.plain F.entry (xinit_check F hB hC he rfl ?_)
  wp_walk
  refine hq _ h.objs.size (fun b o hb ho => ?_) ?_
  · rw [Heap.get?_update_other _ _ (Ne.symm hb)]
    exact Heap.get?_push_of_some _ ho
  · rw [Heap.get?_update_self _ (Heap.get?_push_of_some _ he) rfl]
    rfl
end
/-! ### an exception that is being made -/
section
variable {X : Cx} {pins : List (Addr × Obj)} {σ : L2.St} {H : Hp} {s : Shared} {a C dx : Addr} {f : Str} {y : V} {u : Value} {fs : List (Str × V)} {Q : Unit → Shared → Prop} {E : Value → Shared → Prop} {A : Around} {B newId initId : String} {bm : List Value}
theorem xst_new (T : XcF X.K B newId initId bm C) (I : Inv X pins σ H s) (e : H a = some (exo a C none)) (hno : PySem.W.findIn X.K (.ref C) f = some none) (ry : RelV y u)
    (h : ∀ dx s', H dx = none → dx ≠ a → Inv X pins σ (upd (upd H dx (exd dx [(f, y)])) a (exo a C (some dx))) s' → Q () s') : wpAny (model X.prog X.w) A (setAttr (.ref a) f u) Q E s := by
  obtain ⟨t1, ho⟩ := exo_at I.hok e
  obtain ⟨hp, g, d, t, os⟩ := s
  refine PySem.W.set_plain I.kIn (ox := { cls := .ref C, dict := none, data := .fields #[.ref t1, .none, .none, .none, .bool false, .none] }) (od := none) ⟨ho, rfl, rfl, trivial⟩ T.sa ?_
  refine xosa_new T I.kIn ho hno (fun h' tk' dx k dn dne hx hn => ?_)
  have hnd : H dx = none := I.hok.fresh dn
  have nd : ∀ {b : Addr} {o : Obj}, hp.get? b = some o → b ≠ dx := fun {b o} q => Nat.ne_of_lt (Nat.lt_of_lt_of_le (Heap.lt_size q) dn)
  have na : ∀ {b : Addr}, H b = none → b ≠ a := fun {b} n z => by
    rw [z, e] at n
    cases n
  have U : Un X.fs [] H (upd (upd H dx (exd dx [(f, y)])) a (exo a C (some dx))) hp h' := by
    constructor
    · exact fun b o q n _ _ => k b o (na n) q
    · exact fun b o q n _ _ => ⟨o.slots, k b o (na n) q⟩
    · exact fun b o q n _ => ((upd_ne (na n)).trans (upd_ne (nd q))).trans n
    · exact fun b o q _ => (Decidable.em (b = a)).elim (fun hb => ⟨_, hb ▸ hx⟩) fun hb => ⟨o, k b o hb q⟩
    · exact fun b xs q => ((upd_ne (at_ne e q exo_tup)).trans (upd_ne (ne_of_none q hnd))).trans q
    · exact fun b o v q => ((upd_ne (at_ne e q exo_frz)).trans (upd_ne (ne_of_none q hnd))).trans q
    · exact fun b ps q => ⟨#[], ((upd_ne (at_ne e q exo_tbl)).trans (upd_ne (ne_of_none q hnd))).trans (by rw [q]; simp)⟩
  refine h dx _ hnd dne (I.un (t' := tk') U fun b o q => ?_)
  by_cases hb : b = a
  · rw [hb, upd_same] at q
    cases q
    rw [hb]
    exact exo_ok hx
  · rw [upd_ne hb] at q
    by_cases hd : b = dx
    · rw [hd, upd_same] at q
      cases q
      rw [hd]
      exact exd_ok hn (relO_put (fs := []) ry fun g => True.intro)
    · rw [upd_ne hd] at q
      refine (I.hok b o q).stay (fun c v hc z => k c v (hc.elim (fun w => w ▸ hb) fun w => at_ne e w exo_own) z) (fun c hc => ?_) fun c xs hc => ?_
      · exact ((upd_ne (at_ne e hc exo_own)).trans (upd_ne (ne_of_none hc hnd))).trans hc
      · exact ((upd_ne (at_ne e hc exo_tup)).trans (upd_ne (ne_of_none hc hnd))).trans hc
theorem xst_old (T : XcF X.K B newId initId bm C) (I : Inv X pins σ H s) (e : H a = some (exo a C (some dx))) (ed : H dx = some (exd dx fs)) (hl : fs.length ≤ 900) (hno : PySem.W.findIn X.K (.ref C) f = some none) (ry : RelV y u)
    (h : ∀ s', Inv X pins σ (upd H dx (exd dx ((f, y) :: fs))) s' → Q () s') : wpAny (model X.prog X.w) A (setAttr (.ref a) f u) Q E s := by
  obtain ⟨t1, ho⟩ := exo_at I.hok e
  obtain ⟨mA, hns, rel⟩ := exd_at I.hok ed
  have hw := within_of rel
  obtain ⟨hp, g, d, t, os⟩ := s
  obtain ⟨oD, _, _, hoD, _, _⟩ := hns.count hw
  refine PySem.W.set_plain I.kIn (ox := { cls := .ref C, dict := some dx, data := .fields #[.ref t1, .none, .none, .none, .bool false, .none] }) (od := some oD) ⟨ho, rfl, rfl, hoD⟩ T.sa ?_
  refine xosa_old T I.kIn ho hns hw (by rw [List.length_map]; omega) hno (fun h' tk' k hn => ?_)
  obtain ⟨o1, q1, q2, q3, q4⟩ := hn
  exact h _ (I.write (t' := tk') (x := dx) (e := dx) (o := exd dx ((f, y) :: fs)) (by rw [ed]; exact True.intro) (.inl rfl) k ⟨o1, q3⟩ (exd_ok ⟨o1, q1, q2, q3, q4⟩ (relO_put ry rel)))
/-- B.__init__(self, ..) -/
theorem xinit_ok {us : List Value} {Q : Value → Shared → Prop} (T : XcF X.K B newId initId bm C) (I : Inv X pins σ H s) (e : H a = some (exo a C none)) (hl : us.length ≤ sizeLine) (h : ∀ s', Inv X pins σ H s' → Q .none s') :
    wpAny (model X.prog X.w) A (call (.builtin initId) (.ref a :: us)) Q E s := by
  obtain ⟨nm, N, qn, bs, bm', hdct, sn, sub, ab, col, dd, k0, k1, k2, k3, k5, hC, hT⟩ := PySem.W.excInit_of I.kIn T.shape
  obtain ⟨t1, ho⟩ := exo_at I.hok e
  obtain ⟨hp, g, d, t, os⟩ := s
  refine wpAny_call (xinit_run T.b.ini ((hT B).trans T.b.self) hC ho hl fun h' t2 k hx => ?_)
  have J := I.write (t' := t) (x := a) (e := a) (o := exo a C none) (by rw [e]; exact True.intro) (.inl rfl) k ⟨_, hx⟩ (exo_ok hx)
  rw [show upd H a (exo a C none) = H from funext fun b => (Decidable.em (b = a)).elim (fun hb => by rw [hb, upd_same, e]) fun hb => upd_ne hb] at J
  exact h _ J
end
end PM
set_option Elab.async false
set_option linter.all false
set_option maxRecDepth 100000
set_option maxHeartbeats 4000000
/-! the built-in exceptions that own classes of this program stand over -/
namespace PM
open PySem PySem.Spec L2 PyProof.Rows
open PySem.F
theorem bx_ValueError : BxF "ValueError" "ValueError.__new__" "ValueError.__init__" [.type "ValueError", .type "Exception", .type "BaseException", .type "object"] := .of excBase_ValueError store_ValueError
end PM
set_option Elab.async false
set_option linter.all false
set_option maxRecDepth 100000
set_option maxHeartbeats 1200000
namespace PM
open PySem PySem.Spec L2 PyProof.Rows
/-! ### the __init__ of an own exception class: B.__init__(self, text), then self.f = f for its parameters -/
/-- what C's __init__ promises -/
def spX (C : Addr) (fs : List Str) : Sp := fun vs H Q _ => ∃ a ws, vs = .ref a :: ws ∧ H a = some (exo a C none) ∧ (match fs, ws with
  | [], [] => Q .non H
  | [f], [v] => ∀ dx, H dx = none → dx ≠ a → Q .non (upd (upd H dx (exd dx [(f, v)])) a (exo a C (some dx)))
  | [f, g], [v, u] => ∀ dx, H dx = none → dx ≠ a → Q .non (upd (upd (upd H dx (exd dx [(f, v)])) a (exo a C (some dx))) dx (exd dx [(g, u), (f, v)]))
  | _, _ => False)
theorem spX_len {C : Addr} {fs : List Str} {vs : List V} {H : Hp} {Q : VK} {E : XK} (h : spX C fs vs H Q E) : vs.length = fs.length + 1 := by
  obtain ⟨a, ws, rfl, _, h⟩ := h
  rw [List.length_cons]
  split at h
  · rfl
  · rfl
  · rfl
  · exact h.elim
/-- what the text's name of B must be -/
structure BxN (X : Cx) (B initId : String) (x : Str) : Prop where
  hg : Gl X x
  hm : X.mg x = none
  hv : bootBuiltins x = some (.type B)
  hd : (x == ("__debug__" : Str)) = false
  hn : x ≠ "__name__"
  ty : typeOf (.type B) = pure (.type "type")
  st : Manifest.isStub B = false
  vi : PySem.W.findCls X.K (.type B) (.type "type") "__init__" = some (.val (.builtin initId))
  hh : PySem.W.handedIn (.builtin initId) = true
section
variable {X : Cx} {B newId initId : String} {bm : List Value} {C : Addr} {x y z f g tx : Str} {j : Nat} {p1 p2 p3 p4 p5 p6 p7 p8 p9 p10 p11 p12 p13 p14 pos : Pos}
def tBxi (C : Addr) : TE := fun σ H Q => ∃ a, σ[0]? = some (some (.ref a)) ∧ H a = some (exo a C none) ∧ Q .non H
theorem pe_bxi {pl : Sem Bool} (T : XcF X.K B newId initId bm C) (n : BxN X B initId x) (hN : X.N[0]? = some ("self" : Str)) (hv : Vis X.env.scope "self")
    (hc : eval (.Call (.Attribute (.Name x p1) "__init__" p2) [.Name "self" p3, .Constant (.str tx) j p4] [] pos) X.env = (do
      let ov ← eval (.Name x p1) X.env
      standAt p2.atName
      let (f, first) ← holding [ov] (getMethod ov "__init__" pl)
      callWith pos f first (backTo pos (starEach [.Name "self" p3, .Constant (.str tx) j p4] X.env)) (backToKw pos (keywordEach [] X.env))) := by rfl)
    (hs : starEach [.Name "self" p3, .Constant (.str tx) j p4] X.env = (false, eval (.Name "self" p3) X.env) :: starEach [.Constant (.str tx) j p4] X.env := by rfl) (hs2 : starEach [.Constant (.str tx) j p4] X.env = (false, eval (.Constant (.str tx) j p4) X.env) :: starEach [] X.env := by rfl)
    (hpl : (backTo pos (starEach [.Constant (.str tx) j p4] X.env)).any (·.1) = false := by rfl) :
    PE X (.Call (.Attribute (.Name x p1) "__init__" p2) [.Name "self" p3, .Constant (.str tx) j p4] [] pos) (tBxi C) := by
  refine ⟨fun pins s σ H Q I ⟨a, h1, h2, h3⟩ => PySem.W.methodCall_KW (ld_blt I n.hg n.hm n.hv ?_ n.hn n.hd) hc⟩
  obtain ⟨m, fr⟩ := I.fr
  refine PySem.W.method_type fr I.ok.mod.kin n.ty n.st n.vi n.hh ?_
  show wpAny _ _ (callWith pos (Value.builtin initId) [] (backTo pos (starEach [.Name "self" p3, .Constant (.str tx) j p4] X.env)) []) _ _ _
  refine PyProof.Rows.callWith_method1 (thn ((pa_cons (pe_var (pos := p3) hN hv) (pa_cons pe_str pa_nil hs2) hs).run pos pins _ σ H (fun vs H1 => vs = [.ref a, .str tx] ∧ H1 = H) (I.tok _) ⟨.ref a, h1, rfl, rfl⟩) fun us s1 ⟨vs, H1, I1, r1, ev, eh⟩ => ?_) hs hpl
  subst ev eh
  cases r1 with
  | @cons _ u0 _ ur ra rw' =>
    obtain rfl : u0 = Value.ref a := ra
    exact xinit_ok T I1 h2 (by rw [← Paired.length rw', List.length_singleton, sizeLine_eq]; omega) fun s' J => ⟨.non, H1, J, rfl, h3⟩
/-- self.f = y -/
def tXst (K : PySem.W.Frag) (C : Addr) (i : Nat) (f : Str) : TS := fun D σ H => ∃ a v, σ[0]? = some (some (.ref a)) ∧ σ[i]? = some (some v) ∧ ((H a = some (exo a C none) ∧ ∀ dx, H dx = none → dx ≠ a → D.nx σ (upd (upd H dx (exd dx [(f, v)])) a (exo a C (some dx)))) ∨
    ∃ dx fs, H a = some (exo a C (some dx)) ∧ H dx = some (exd dx fs) ∧ fs.length ≤ 900 ∧ D.nx σ (upd H dx (exd dx ((f, v) :: fs))))
theorem ps_xst {i : Nat} (T : XcF X.K B newId initId bm C) (hno : PySem.W.findIn X.K (.ref C) f = some none) (hN : X.N[0]? = some ("self" : Str)) (hv : Vis X.env.scope "self") (hNi : X.N[i]? = some y) (hvi : Vis X.env.scope y) (hd : (y == ("__debug__" : Str)) = false) (hcd : (y == ("__classdict__" : Str)) = false)
    (hs : swapsWith (.Name y p1) (some (.Attribute (.Name "self" p2) f p3)) pos.line X.env = pure false := by rfl) : PS X (.Assign [.Attribute (.Name "self" p2) f p3] (.Name y p1) pos) (tXst X.K C i f) := by
  refine ⟨fun pins s σ H D I ⟨a, v, h1, h2, h⟩ => ?_⟩
  refine plainObj_wpAny_Assign_Attribute (thn ((pe_var (pos := p1) hNi hvi hd hcd).run pins s σ H (fun v' H1 => v' = v ∧ H1 = H) I ⟨v, h2, rfl, rfl⟩) fun v1 s1 ⟨y1, H1, I1, r1, e1, e2⟩ => thn ((pe_var (pos := p2) hN hv).run pins s1 σ H1 (fun v' H2 => v' = .ref a ∧ H2 = H1) I1 ⟨.ref a, h1, rfl, rfl⟩) fun u s2 ⟨x2, H2, I2, r2, e3, e4⟩ => ?_) hs
  subst e1 e2 e3 e4
  obtain rfl : u = Value.ref a := r2
  rcases h with ⟨ea, q⟩ | ⟨dx, fs, ea, ed, hl, q⟩
  · exact xst_new T I2 ea hno r1 fun dx s' n ne J => ⟨σ, _, J, q dx n ne⟩
  · exact xst_old T I2 ea ed hl hno r1 fun s' J => ⟨σ, _, J, q⟩
end
section
variable {P : Program} {w : World} {K : PySem.W.Frag} {mg : Str → Option Value} {base : Heap} {k : Nat} {fI C : Addr} {name qual f g y z x tx : Str} {j : Nat} {params : Arguments} {scope : Scope} {fd : FuncData} {B newId initId : String} {bm : List Value} {p1 p2 p3 p4 p5 p6 p7 p8 p9 p10 p11 p12 p13 p14 pos : Pos}
theorem xok1 (T : XcF K B newId initId bm C) (hno : PySem.W.findIn K (.ref C) f = some none) (F : FunD K name qual params [.Expr (.Call (.Attribute (.Name x p1) "__init__" p2) [.Name "self" p3, .Constant (.str tx) j p4] [] p5) p6, .Assign [.Attribute (.Name "self" p7) f p8] (.Name y p9) p10] scope [] [] fI fd)
    (S : FnScope ["self", y] ["self", y] scope)
    (h1 : ∀ cdv A outer s H E, PE (cxOf (L2.CX P w) P w K mg base ["self", y] qual scope fI cdv A outer s H E) (.Call (.Attribute (.Name x p1) "__init__" p2) [.Name "self" p3, .Constant (.str tx) j p4] [] p5) (tBxi C))
    (h2 : ∀ cdv A outer s H E, PS (cxOf (L2.CX P w) P w K mg base ["self", y] qual scope fI cdv A outer s H E) (.Assign [.Attribute (.Name "self" p7) f p8] (.Name y p9) p10) (tXst K C 1 f))
    (hs1 : ∀ cdv A outer s H E, swapsWith (.Call (.Attribute (.Name x p1) "__init__" p2) [.Name "self" p3, .Constant (.str tx) j p4] [] p5) none p6.line (cxOf (L2.CX P w) P w K mg base ["self", y] qual scope fI cdv A outer s H E).env = pure false := by intros; rfl) :
    FnOk P w K mg base (L2.CX P w) (k + 1) fI fd ["self", y] (spX C [f]) := F.ok S (fun _ _ _ _ h => (spX_len h).trans rfl) fun cdv A outer s H vs Q E hr hsp => by
  refine ⟨_, pss_cons (ps_expr (h1 cdv A outer s H E) (hs1 cdv A outer s H E)) (pss_one (h2 cdv A outer s H E)), ?_⟩
  obtain ⟨a, ws, rfl, ha, h⟩ := hsp
  match ws, h with
  | [], h => exact h.elim
  | _ :: _ :: _, h => exact h.elim
  | [v], h => exact ⟨a, rfl, ha, a, v, rfl, rfl, .inl ⟨ha, h⟩⟩
end
/-! ### raise C(..) -/
def mRaise (C : Str) (fs : List Str) (args : M (List D)) : MS := args.then fun ds st => if ds.length = fs.length then .exc ⟨.own C, if fs = [] then none else some (fs.zip ds).reverse⟩ st else .stuck
/-- what is wished of C(..) -/
def tMkX (C : Addr) (fs : List Str) (ta : TA) : L2.St → Hp → XK → Prop := fun σ H Q => ta σ H fun vs H1 => vs.length = fs.length ∧ (fs = [] → Q (.ref C) none H1) ∧ (fs ≠ [] → ∀ dx, H1 dx = none → Q (.ref C) (some dx) (upd H1 dx (.xd (fs.zip vs).reverse)))
section
variable {X : Cx} {B newId initId : String} {bm : List Value} {C fI : Addr} {fs : List Str} {k : Nat} {fd : FuncData} {ps : List Str}
theorem mk_endN {pins : List (Addr × Obj)} {σ : L2.St} {H1 : Hp} {Q : XK} {hp hp2 h2 : Heap} {g1 g2 : Array GenState} {d1 d2 : Drawn} {t1 t2 : Nat} {os1 os2 : OsState} {a C : Addr} (T : Raises X (.ref C)) (I1 : Inv X pins σ H1 ⟨hp, g1, d1, t1, os1⟩)
    (ha : hp.objs.size ≤ a) (k : ∀ b o, hp.get? b = some o → hp2.get? b = some o) (un : Un (frs X.stack) [] (upd H1 a (exo a C none)) (upd H1 a (exo a C none)) hp2 h2) (hok : HOk X.prog X.w (upd H1 a (exo a C none)) h2) (ho : os2 = os1) (hb : AllBare g2)
    (q : Q (.ref C) none H1) : MkP X pins σ Q (.ref a) ⟨h2, g2, d2, t2, os2⟩ := by
  obtain ⟨t0, hoe⟩ := exo_at hok (upd_same : upd H1 a (exo a C none) a = _)
  have hn : H1 a = none := I1.hok.fresh ha
  obtain ⟨G, q1, q2⟩ := restrict h2 fun b => decide (b ≠ a)
  have gk : ∀ b, b ≠ a → G.get? b = h2.get? b := fun b hb => q1 b (decide_eq_true hb)
  have ge : G.get? a = none := q2 a (by simp)
  have nha : ∀ {b : Addr} {o : Obj}, hp.get? b = some o → b ≠ a := fun {b o} z => Nat.ne_of_lt (Nat.lt_of_lt_of_le (Heap.lt_size z) ha)
  have up : ∀ {b : Addr}, b ≠ a → H1 b = none → upd H1 a (exo a C none) b = none := fun {b} hb n => (upd_ne hb).trans n
  have neh : ∀ {b : Addr} {o : HO}, H1 b = some o → b ≠ a := fun {b o} z => ne_of_none z hn
  have U : Un (frs X.stack) [] H1 H1 hp G := by
    constructor
    · exact fun b o z n hf hx => (gk b (nha z)).trans (un.keep b o (k b o z) (up (nha z) n) hf hx)
    · exact fun b o z n hf hx => by rw [gk b (nha z)]; exact un.slot b o (k b o z) (up (nha z) n) hf hx
    · exact fun b o z n hx => n
    · exact fun b o z hx => by rw [gk b (nha z)]; exact un.there b o (k b o z) hx
    · exact fun b xs z => z
    · exact fun b o v z => z
    · exact fun b ps z => ⟨#[], by rw [z]; simp⟩
  have hok3 : HOk X.prog X.w H1 G := fun b o z => by
    refine (hok b o ((upd_ne (neh z)).trans z)).stay (fun c v hc y => ?_) (fun c hc => ?_) fun c xs hc => ?_
    · have hca : c ≠ a := by
        rcases hc with hc | hc
        · rw [hc]; exact neh z
        · exact at_ne (upd_same : upd H1 a (exo a C none) a = _) hc exo_own
      rw [gk c hca]
      exact y
    · by_cases e : c = a
      · rw [e, upd_same] at hc
        exact absurd (Option.some.inj hc) exo_own
      · rw [upd_ne e] at hc; exact hc
    · by_cases e : c = a
      · rw [e, upd_same] at hc
        exact absurd (Option.some.inj hc) exo_tup
      · rw [upd_ne e] at hc; exact hc
  have J : Inv X pins σ H1 ⟨G, g2, d2, t2, os2⟩ := I1.call' (ch := []) ho U hok3 hb (fun b z => absurd z (by simp))
  refine ⟨a, _, _, ⟨G, g2, d2, t2, os2⟩, _, .ref C, none, rfl, J, fun b o z => ?_, ge, hoe, ⟨rfl, rfl⟩, rfl, rfl, hn, rfl, hb, T, q⟩
  by_cases hba : b = a
  · rw [hba, ge] at z
    cases z
  · exact (gk b hba).symm.trans z
theorem run_mkx {W : WX} {pins : List (Addr × Obj)} {σ : L2.St} {H1 : Hp} {s1 : Shared} {Q : XK} {us : List Value} {vs : List V} (T : XcF X.K B newId initId bm C) (iC : PySem.W.findIn X.K (.ref C) "__init__" = some (some (.ref fI))) (tI : PySem.W.typeIn X.K (.ref fI) = some (.type "function"))
    (F1 : FnOk X.prog X.w X.K X.mg X.base (L2.CX X.prog X.w) k fI fd ps (spX C fs)) (hr : Room (k + 1) X.A) (hb : Binds X.K fd ps []) (tk : Takes X W) (hfs : fs.length ≤ 2) (I1 : Inv X pins σ H1 s1) (r1 : Vals vs us)
    (hl : vs.length = fs.length) (q0 : fs = [] → Q (.ref C) none H1) (q1 : fs ≠ [] → ∀ dx, H1 dx = none → Q (.ref C) (some dx) (upd H1 dx (.xd (fs.zip vs).reverse))) : wpAny (model X.prog X.w) X.A (call (.ref C) us) (MkP X pins σ Q) X.xe s1 := by
  obtain ⟨hp, g, dr, tkk, os⟩ := s1
  obtain ⟨nm, N, qn, bs, bm', hdct, sn, sub, ab, col, dd, k0, k1, k2, k3, k5, hC, hT⟩ := PySem.W.excInit_of I1.kIn T.shape
  obtain ⟨Bn, initN, bmN, F, hB⟩ := T.b.new
  have hsz : hp.objs.size ≤ hp.objs.size + 1 := Nat.le_succ _
  have hn : H1 (hp.objs.size + 1) = none := I1.hok.fresh hsz
  have kk : ∀ b o, hp.get? b = some o → ((hp.push (PySem.W.kdv_tup us)).push (PySem.HandSPX.excO C hp.objs.size)).get? b = some o := fun b o e => Heap.get?_push_of_some _ (Heap.get?_push_of_some _ e)
  have hget : ((hp.push (PySem.W.kdv_tup us)).push (PySem.HandSPX.excO C hp.objs.size)).get? (hp.objs.size + 1) = some (PySem.HandSPX.excO C hp.objs.size) := by heap_get
  have I2 : Inv X pins σ (upd H1 (hp.objs.size + 1) (exo (hp.objs.size + 1) C none)) ⟨(hp.push (PySem.W.kdv_tup us)).push (PySem.HandSPX.excO C hp.objs.size), g, dr, tkk, os⟩ :=
    I1.laid (t' := tkk) (a := hp.objs.size + 1) (o := exo (hp.objs.size + 1) C none) (h' := (hp.push (PySem.W.kdv_tup us)).push (PySem.HandSPX.excO C hp.objs.size)) kk hsz (exo_ok hget)
  have r2 : Vals (V.ref (hp.objs.size + 1) :: vs) (Value.ref (hp.objs.size + 1) :: us) := .cons rfl r1
  have hus : us.length ≤ sizeLine := by
    rw [← Paired.length r1, sizeLine_eq, hl]
    omega
  obtain ⟨a, ea⟩ : ∃ a, a = hp.objs.size + 1 := ⟨_, rfl⟩
  have kdel : ∀ {dx : Addr} {ys : List (Str × V)} {H2 : Hp}, dx ≠ a → (∀ b, b ≠ a → b ≠ dx → H2 b = H1 b) → upd (del H2 a) dx (.xd ys) = upd H1 dx (.xd ys) := fun {dx ys H2} hd hh => by
    funext b
    by_cases e1 : b = dx
    · rw [e1, upd_same, upd_same]
    · rw [upd_ne e1, upd_ne e1]
      by_cases e2 : b = a
      · rw [e2, del_same, ea, hn]
      · rw [del_ne e2, hh b e2 e1]
  have hsp : spX C fs (V.ref (hp.objs.size + 1) :: vs) (upd H1 (hp.objs.size + 1) (exo (hp.objs.size + 1) C none)) (fun v H2 => v = .non ∧ ((fs = [] ∧ H2 = upd H1 a (exo a C none)) ∨ ∃ (d : Addr) (ys : List (Str × V)), H2 a = some (exo a C (some d)) ∧ H2 d = some (exd d ys) ∧ H1 d = none ∧ Q (.ref C) (some d) (upd (del H2 a) d (.xd ys)))) (fun _ _ _ => False) := by
    rw [← ea]
    refine ⟨a, vs, rfl, upd_same, ?_⟩
    match fs, vs, hl, hfs with
    | [], [], _, _ => exact ⟨rfl, .inl ⟨rfl, rfl⟩⟩
    | [f], [v], _, _ =>
      intro dx hdx hne
      have h1 : H1 dx = none := by rw [upd_ne hne] at hdx; exact hdx
      refine ⟨rfl, .inr ⟨dx, [(f, v)], upd_same, (upd_ne hne).trans upd_same, h1, ?_⟩⟩
      rw [kdel hne fun b e1 e2 => (upd_ne e1).trans ((upd_ne e2).trans (upd_ne e1))]
      exact q1 (by simp) dx h1
    | [f, g], [v, u], _, _ =>
      intro dx hdx hne
      have h1 : H1 dx = none := by rw [upd_ne hne] at hdx; exact hdx
      refine ⟨rfl, .inr ⟨dx, [(g, u), (f, v)], (upd_ne (Ne.symm hne)).trans upd_same, upd_same, h1, ?_⟩⟩
      rw [kdel hne fun b e1 e2 => (upd_ne e2).trans ((upd_ne e1).trans ((upd_ne e2).trans (upd_ne e1)))]
      exact q1 (by simp) dx h1
    | _ :: _ :: _ :: _, _, _, h => exact absurd h (by simp)
  have hlen : (Value.ref (hp.objs.size + 1) :: us ++ []).length = ps.length := by
    have e := r2.length
    rw [F1.len _ _ _ _ hsp] at e
    rw [List.append_nil]
    exact e.symm
  refine wpAny_call (xcall F ((hT _).trans hB) ((hT _).trans T.b.noA) ((hT _).trans T.b.noN) hC (PySem.W.looks_findIn I1.kIn iC) (fun self => PySem.W.bind_fn I1.kIn self tI) hus
    (codeAny_mono (F1.run _ X.stack _ _ ⟨Value.ref (hp.objs.size + 1) :: us, []⟩ (Value.ref (hp.objs.size + 1) :: us) _ _ (fun _ _ _ => False) (hr.make C us []) (I2.env0.make C us []) (by have z := hb _ (Value.ref (hp.objs.size + 1) :: us) I2.kIn hlen; rw [List.append_nil] at z; exact z) r2 hsp) fun r s' hq' => ?_))
  cases r with
  | error er => exact passes_call (E := fun _ _ _ => False) tk (fun _ _ _ _ h => h.elim) pins σ _ _ er s' I2 hq'
  | ok fl =>
    cases fl with
    | next => exact False.elim hq'
    | brk => exact False.elim hq'
    | cont => exact False.elim hq'
    | ret u =>
      obtain ⟨v, H2, os2, bare2, un2, hok2, rv, ev, q⟩ := hq'
      subst ev
      obtain ⟨h2, g2, d2, t2, os'⟩ := s'
      rcases q with ⟨e0, rfl⟩ | ⟨d, ys, ea', ed, hd1, q2⟩
      · rw [ea] at un2 hok2
        exact ⟨rv, mk_endN (raises_own T.exC T.tyC) I1 hsz kk un2 hok2 os2 bare2 (q0 e0)⟩
      · rw [ea] at ea' q2
        exact ⟨rv, mk_end (raises_own T.exC T.tyC) I1 hsz kk un2 hok2 os2 bare2 ea' ed hd1 q2⟩
variable {W : WX} {x : Str} {e : Expr} {es : List Expr} {ta : TA} {p pos : Pos}
theorem pmk_x (T : XcF X.K B newId initId bm C) (iC : PySem.W.findIn X.K (.ref C) "__init__" = some (some (.ref fI))) (tI : PySem.W.typeIn X.K (.ref fI) = some (.type "function"))
    (F1 : FnOk X.prog X.w X.K X.mg X.base (L2.CX X.prog X.w) k fI fd ps (spX C fs)) (hr : Room (k + 1) X.A) (hb : Binds X.K fd ps []) (tk : Takes X W) (hfs : fs.length ≤ 2) (hg : Gl X x) (hm : X.mg x = some (.ref C)) (ha : PA X (e :: es) ta)
    (hdb : (x == ("__debug__" : Str)) = false) (he : starEach (e :: es) X.env = (false, eval e X.env) :: starEach es X.env) (hpl : (backTo pos (starEach es X.env)).any (·.1) = false) :
    PMk X (.Call (.Name x p) (e :: es) [] pos) (tMkX C fs ta) := fun pins s σ H Q I h => by
  refine wpAny_Call_Name_kw (ld_glob I hg hm ?_ hdb)
  exact PySem.W.callWith_K (h₀ := X.base) I.ok.mod.kin T.kC (thn (ha.run pos pins s σ H _ I h) fun us s1 ⟨vs, H1, I1, r1, hl, q0, q1⟩ => ⟨I1.kIn, run_mkx T iC tI F1 hr hb tk hfs I1 r1 hl q0 q1⟩) he hpl
end
/-- C is an own exception class with these fields, its __init__ walked -/
structure XcP (P : Program) (w : World) (K : PySem.W.Frag) (mg : Str → Option Value) (base : Heap) (k : Nat) (C : Str) (fs : List Str) : Prop where
  ex : ∃ (B newId initId : String) (bm : List Value) (fI : Addr) (fd : FuncData) (ps : List Str), XcF K B newId initId bm (He.ga K C) ∧ PySem.W.findIn K (.ref (He.ga K C)) "__init__" = some (some (.ref fI)) ∧ PySem.W.typeIn K (.ref fI) = some (.type "function") ∧
    FnOk P w K mg base (L2.CX P w) k fI fd ps (spX (He.ga K C) fs) ∧ Binds K fd ps []
  len : fs.length ≤ 2
abbrev XcOk (X : Cx) (k : Nat) (C : Str) (fs : List Str) : Prop := XcP X.prog X.w X.K X.mg X.base k C fs
section
variable {X : Cx} {E : Ent} {W : WX} {k : Nat} {C : Str} {fs : List Str} {x : Str} {e : Expr} {es : List Expr} {ma : M (List D)} {p pos pos' : Pos}
theorem ss_raise (xc : XcOk X k C fs) (hr : Room (k + 1) X.A) (hc : X.calm = true) (tk : Takes X W) (hg : Gl X x) (hm : X.mg x = some (.ref (He.ga X.K C))) (ha : SA X E W (e :: es) ma)
    (hdb : (x == ("__debug__" : Str)) = false := by decide) (he : starEach (e :: es) X.env = (false, eval e X.env) :: starEach es X.env := by rfl) (hpl : (backTo pos (starEach es X.env)).any (·.1) = false := by rfl) :
    SS X E W (.Raise (some (.Call (.Name x p) (e :: es) [] pos)) none pos') (mRaise C fs ma) := by
  obtain ⟨B, newId, initId, bm, fI, fd, ps, T, iC, tI, F1, hb⟩ := xc.ex
  refine PSi (ps_raise hc tk (pmk_x T iC tI F1 hr hb tk xc.len hg hm ha hdb he hpl)) fun D0 σ H ⟨st, φ, I, R, q⟩ => ⟨st, φ, I, R, (Ps.then q).imp fun ds H1 st1 φ1 I1 S1 R1 q vs hv => ?_⟩
  by_cases hl : ds.length = fs.length
  · rw [if_pos hl] at q
    have hlv : vs.length = fs.length := by rw [← hv.len]; exact hl
    refine ⟨hlv, fun e0 => ?_, fun e0 dx hdx => ?_⟩
    · rw [if_pos e0] at q
      exact q none σ H1 φ1 I1 Grow.refl R1 rfl
    · rw [if_neg e0] at q
      obtain ⟨R2, S2⟩ := R1.laidO hdx (.xd (fs.zip vs).reverse)
      have h0 := (R1.fresh hdx).1
      refine q (some dx) σ _ φ1 I1 Grow.refl R2 ⟨dx, (fs.zip vs).reverse, rfl, h0, upd_same, ?_, ?_⟩
      · rw [List.map_reverse, List.map_reverse, List.map_fst_zip (by omega), List.map_fst_zip (by omega)]
      · rw [List.map_reverse, List.map_reverse, List.map_snd_zip (by omega), List.map_snd_zip (by omega)]
        clear q hl hlv R2 S2
        have rev : ∀ {ds : List D} {vs : List V}, Rvs X.K φ1 I1 ds vs → Rvs X.K φ1 I1 ds.reverse vs.reverse := by
          intro ds
          induction ds with
          | nil => intro vs h; cases h; exact .nil
          | cons d ds ih =>
            intro vs h
            cases h with
            | cons h1 h2 =>
              rw [List.reverse_cons, List.reverse_cons]
              exact (ih h2).append (.cons h1 .nil)
        exact rev hv
  · rw [if_neg hl] at q
    exact q.elim
end
end PM
set_option Elab.async false
set_option linter.all false
set_option maxRecDepth 100000
set_option maxHeartbeats 2400000
namespace PM
open PySem PySem.Spec L2 PyProof.Rows
/-! ### try: body, except C as n: suite .. -/
def ECls.name : ECls → Str
  | .own C => C
  | .blt _ => Str.empty
/-- an exception that is held -/
def Exc.toD (c : Exc) : D := match c.fs with
  | none => .exn0 c.cls.name
  | some fs => .exn c.cls.name fs
/-- the name of an except clause goes -/
def unS (i : Nat) : SOut → SOut
  | .nx st => .nx (st.wipe [i])
  | .bk st => .bk (st.wipe [i])
  | .ct st => .ct (st.wipe [i])
  | .rt (.lo _) _ => .stuck
  | .rt r st => .rt r (st.wipe [i])
  | _ => .stuck
def noS : SOut → SOut
  | .exc _ _ => .stuck
  | o => o
abbrev Hnd := Str × Option Nat × MS
def runS (i : Option Nat) (m : MS) (c : Exc) : MS := fun st => match i with
  | none => noS (m st)
  | some i => unS i (m { st with env := st.env.set i (.sh c.toD) })
def runH (ys : List Str) : List Hnd → Exc → MS
  | [], c => fun st => .exc c st
  | (x, i, m) :: r, c => fun st => match c.cls with
    | .own Y => if ys.contains Y then (if Y = x then runS i m c st else runH ys r c st) else .stuck
    | .blt _ => .stuck
def mTry (body : MS) (ys : List Str) (l : List Hnd) : MS := fun st => match body st with
  | .exc c st' => runH ys l c st'
  | o => o
section
variable {K : PySem.W.Frag} {E : Ent} {W : WX} {σ : L2.St} {H : Hp} {st : State} {φ : List Addr} {I : Hp}
/-- an exception's dict is shared -/
theorem Rp.shareX (R : Rp K E σ H st φ I) {a : Addr} {us : List (Str × V)} (ha : H a = some (.xd us)) (h0 : E.H0 a = none) :
    ∃ I', Rp K E σ H st φ I' ∧ Ex I I' ∧ I' a = some (.xd us) := by
  cases q : I a with
  | some u =>
    have := R.ext a u q
    rw [ha] at this
    cases this
    exact ⟨I, R, Ex.refl I, q⟩
  | none =>
    have eI : Ex I (upd I a (.xd us)) := ex_upd q
    have no : ∀ {b c}, CellAt K φ I H b c → b ≠ a := fun {b c} ⟨o, e1, _, e3⟩ z => by
      rw [z, ha] at e1
      cases e1
      cases e3
    refine ⟨upd I a (.xd us), ⟨fun b u e => ?_, R.keep, R.there, fun b h n => ?_, fun b u e => eI _ _ (R.iold b u e), R.pre, R.fl.ii eI, R.pnew, R.nd, R.len, fun i c b h1 h2 => ?_, R.pin, R.elen, fun i d h => ?_, fun i c h => ?_, R.one⟩, eI, upd_same⟩
    · by_cases hb : b = a
      · rw [hb, upd_same] at e; cases e; rw [hb]; exact ha
      · rw [upd_ne hb] at e; exact R.ext b u e
    · by_cases hb : b = a
      · rw [hb]; exact .inl h0
      · rw [upd_ne hb] at h; exact R.inew b h n
    · rcases R.cells i c b h1 h2 with z | z
      · exact .inl z
      · exact .inr (z.mono List.prefix_rfl eI (by rw [upd_ne (no z)]; exact z.choose_spec.2.1) fun u e => e)
    · obtain ⟨v, h1, h2⟩ := R.sh i d h
      exact ⟨v, h1, h2.mono List.prefix_rfl eI⟩
    · obtain ⟨b, h1, h2, h3, h4⟩ := R.ow i c h
      exact ⟨b, h1, h2.mono List.prefix_rfl eI (by rw [upd_ne (no h2)]; exact h2.choose_spec.2.1) fun u e => e, h3, h4⟩
/-- a caught exception is a value -/
theorem Rp.caught (R : Rp K E σ H st φ I) {a : Addr} {c : Exc} {d : Option Addr} {Y : Str} (hc : c.cls = .own Y) (hx : Rx K E φ I H c.fs d) (ha : H a = none) :
    ∃ I', Rp K E σ (upd H a (exh a (.ref (He.ga K Y)) d)) st φ I' ∧ Ex I I' ∧ Rv K φ I' c.toD (.ref a) := by
  obtain ⟨R1, S1⟩ := R.laidS ha (exh a (.ref (He.ga K Y)) d)
  obtain ⟨cls, fs⟩ := c
  dsimp only at hc
  subst hc
  cases fs with
  | none =>
    cases (show d = none from hx)
    exact ⟨_, R1, S1.ii, .exn0 upd_same⟩
  | some fs =>
    obtain ⟨dx, us, rfl, e1, e2, e3, e4⟩ := hx
    have hne : dx ≠ a := fun z => by rw [z, ha] at e2; cases e2
    obtain ⟨I2, R2, x2, i2⟩ := R1.shareX (a := dx) (us := us) (by rw [upd_ne hne]; exact e2) e1
    exact ⟨I2, R2, S1.ii.trans x2, .exn (x2 _ _ upd_same) i2 e3 (e4.mono List.prefix_rfl (S1.ii.trans x2))⟩
theorem Ps.unS {i : Nat} {D' : Ends} {o : SOut} (h : Ps K E W φ I D' (PM.unS i o)) : Ps K E WF φ I { nx := fun σ' H' => D'.nx (σ'.set i none) H', rt := D'.rt, bk := fun σ' H' => D'.bk (σ'.set i none) H', ct := fun σ' H' => D'.ct (σ'.set i none) H' } o := by
  cases o with
  | nx st => exact fun σ' H' φ' I' g R => h (L2.wipe σ' [i]) H' φ' I' g R.wipe
  | bk st => exact fun σ' H' φ' I' g R => h (L2.wipe σ' [i]) H' φ' I' g R.wipe
  | ct st => exact fun σ' H' φ' I' g R => h (L2.wipe σ' [i]) H' φ' I' g R.wipe
  | exc c st => exact h.elim
  | stuck => exact h.elim
  | rt r st =>
    cases r with
    | lo j => exact h.elim
    | sh d => exact fun v σ' H' φ' I' g R hr => h v (L2.wipe σ' [i]) H' φ' I' g R.wipe hr
    | ow c => exact fun v σ' H' φ' I' g R ⟨a, e, h1, h2, h3, h4⟩ => h v (L2.wipe σ' [i]) H' φ' I' g R.wipe ⟨a, e, h1, h2, h3, fun j z => h4 j (wipe_owns z)⟩
theorem Ps.noS {D' : Ends} {o : SOut} (h : Ps K E W φ I D' (PM.noS o)) : Ps K E WF φ I D' o := by
  cases o with
  | exc c st => exact h.elim
  | nx st => exact h
  | bk st => exact h
  | ct st => exact h
  | stuck => exact h
  | rt r st => exact h
end
/-- the except clauses and their runs: ys the classes that may fly -/
inductive HsOk (X : Cx) (E : Ent) (ys : List Str) : List ExceptHandler → List Hnd → Prop
  | nil : HsOk X E ys [] []
  | only {x C : Str} {b₀ : Stmt} {suite : List Stmt} {np pos' : Pos} {hds : List ExceptHandler} {l : List Hnd} {m : MS} (hc : Names X x (.ref (He.ga X.K C))) (he : ∀ Y ∈ ys, PySem.W.exmOne X.K (.ref (He.ga X.K Y)) (.ref (He.ga X.K C)) = some (decide (Y = C)))
      (hsu : ∀ (a : Addr) (pn : List (Addr × Obj)), SSs (X.suite a pn) E WF (b₀ :: suite) m) (r : HsOk X E ys hds l) : HsOk X E ys (.ExceptHandler (some (.Name x np)) none (b₀ :: suite) pos' :: hds) ((C, none, m) :: l)
  | as {x C n : Str} {i : Nat} {b₀ : Stmt} {suite : List Stmt} {np pos' : Pos} {hds : List ExceptHandler} {l : List Hnd} {m : MS} (hi : X.N[i]? = some n) (hln : X.env.kindOf n = some .local) (hc : Names X x (.ref (He.ga X.K C))) (he : ∀ Y ∈ ys, PySem.W.exmOne X.K (.ref (He.ga X.K Y)) (.ref (He.ga X.K C)) = some (decide (Y = C)))
      (hsu : ∀ (a : Addr) (pn : List (Addr × Obj)), SSs (X.suite a pn) E WF (b₀ :: suite) m) (r : HsOk X E ys hds l) : HsOk X E ys (.ExceptHandler (some (.Name x np)) (some n) (b₀ :: suite) pos' :: hds) ((C, some i, m) :: l)
section
variable {X : Cx} {pins : List (Addr × Obj)} {σ : L2.St} {H : Hp} {s : Shared}
theorem inv_toSuite (I : Inv X pins σ H s) (a : Addr) : Inv (X.suite a (X.pn ++ pins)) [] σ H s :=
  ⟨I.ok.suite _ _, I.os, I.bare, I.base, I.loc, I.cell, I.free, I.freeC, fun p hp => I.pin p (by rw [List.append_nil] at hp; exact hp), I.hok, I.len⟩
theorem inv_ofSuite {a : Addr} {pn' : List (Addr × Obj)} (I : Inv (X.suite a (X.pn ++ pins)) pn' σ H s) (ok : X.Ok) : Inv X pins σ H s :=
  ⟨ok, I.os, I.bare, I.base, I.loc, I.cell, I.free, I.freeC, fun p hp => I.pin p (List.mem_append_left _ hp), I.hok, I.len⟩
variable {E : Ent} {W : WX} {ys : List Str} {body : List Stmt} {h₀ : ExceptHandler} {hds : List ExceptHandler} {l : List Hnd} {pos : Pos} {mb : MS}
theorem ss_try (hs : X.stack = X.env :: X.outer) (hf : X.env.frame = some X.env.locals) (hN : X.N.Nodup) (tk : Takes X W)
    (hb : ∀ (W' : WX) (pn : List (Addr × Obj)) (xe : Value → Shared → Prop), Takes (X.tr pn xe) W' → PassesOwn (model X.prog X.w) X.A X.env xe → SSs (X.tr pn xe) E W' body mb)
    (hh : HsOk X E ys (h₀ :: hds) l) : SS X E W (.Try body (h₀ :: hds) [] [] pos) (mTry mb ys l) := by
  refine ⟨fun pins s σ H D0 I ⟨st0, φ0, I0, R0, p0⟩ => ?_⟩
  have ok := I.ok
  have hfr : X.A.frames = some (X.env :: X.outer) := by rw [ok.frames, hs]
  obtain ⟨W', hW'⟩ : ∃ W' : WX, W' = fun cls d σ' H' => ∃ c st' φ' I', mb st0 = .exc c st' ∧ cls = c.cls.val X.K ∧ Grow φ0 I0 φ' I' ∧ Rp X.K E σ' H' st' φ' I' ∧ Rx X.K E φ' I' H' c.fs d ∧ Ps X.K E W φ0 I0 D0 (runH ys l c st') := ⟨_, rfl⟩
  have pb : Ps X.K E W' φ0 I0 D0 (mb st0) := by
    unfold mTry at p0
    cases e : mb st0 with
    | exc c st' =>
      rw [e] at p0
      intro d σ' H' φ' I' g R hx
      rw [hW']
      exact ⟨c, st', φ', I', e, rfl, g, R, hx, p0⟩
    | nx st' => rw [e] at p0; exact p0
    | bk st' => rw [e] at p0; exact p0
    | ct st' => rw [e] at p0; exact p0
    | rt r st' => rw [e] at p0; exact p0
    | stuck => rw [e] at p0; exact p0
  refine wpAny_Try_except ?_
  refine wpAny_mono ((hb W' (X.pn ++ pins) (fun e s₁ => wpAny (model X.prog X.w) X.A (noteFrame e X.env) (fun _ s₂ => wpAny (model X.prog X.w) X.A (setFlight e none) (fun _ s₃ =>
    wpAny (model X.prog X.w) X.A (handleBy e X.env (h₀ :: hds)) (SP X pins D0) X.xe s₃) X.xe s₂) X.xe s₁) (fun u s' xx => ?_) PassesOwn.looking).run [] s σ H D0 (I.toTry _) ⟨st0, φ0, I0, R0, pb⟩) (fun f s1 hsp => ?_) (fun e s1 he => he)
  · obtain ⟨a, B, sI, pins', σ', H', cls, d, rfl, J', nb, up, sky, na, os, ag, w⟩ := xx
    rw [hW'] at w
    obtain ⟨c, st', φ', I', _, ecls, g, R, hx, pr⟩ := w
    have J : Inv X pins σ' H' sI := J'.ofTry ok
    have sky' : Sky B (X.env :: X.outer) a (Zc cls d) X.env.locals s'.heap := by rw [← hs]; exact sky
    show wpAny (model X.prog X.w) X.A (noteFrame (.ref a) X.env) _ _ _
    refine Sky.land Zc.steady hfr hf sky' fun h3 fl3 up3 => ?_
    have J3 : Inv X pins σ' H' { s' with heap := h3 } := J.landed nb fl3.1 (up.trans up3) os ag
    obtain ⟨oe3, vs3, he3, hz3, hd3⟩ := fl3.there
    have Ba : B.get? a = none := fl3.2.1
    have nfr : a ∉ frs X.stack := fun hm => by
      rw [hs] at hm
      obtain ⟨_, o', e', hnf⟩ := fl3.2.2.1.mem hm
      rw [he3] at e'
      cases e'
      exact hnf _ hd3
    have gone : sI.heap.get? a = none := by
      cases e : sI.heap.get? a with
      | none => rfl
      | some o =>
        have := nb a o e nfr
        rw [Ba] at this
        cases this
    have LT : PySem.W.Looks (model X.prog X.w) h3 (typeOf (.ref a)) cls := fun A Q E s k q => wpAny_typeOf_ref (k _ _ he3) (by rw [hz3.1]; exact q)
    -- the exception, told of
    have track : ∀ h4 : Heap, PySem.HandSPX.FlyingZ B (X.env :: X.outer) a (Zc cls d) h4 → h3.UpToSlots h4 → Inv X pins σ' (upd H' a (exh a cls d)) { s' with heap := h4 } := fun h4 fl4 up4 => by
      obtain ⟨G, q1, q2⟩ := restrict h4 fun b => decide (b ≠ a)
      have gk : ∀ b, b ≠ a → G.get? b = h4.get? b := fun b hb => q1 b (decide_eq_true hb)
      have ga : G.get? a = none := q2 a (by simp)
      have ng : ∀ {b o}, B.get? b = some o → b ≠ a := fun {b o} e z => by rw [z, Ba] at e; cases e
      have nI : ∀ {b o}, sI.heap.get? b = some o → b ≠ a := fun {b o} e z => by rw [z, gone] at e; cases e
      obtain ⟨oe, vs, he, hz, hd⟩ := fl4.there
      have J4 : Inv X pins σ' H' { s' with heap := G } := J.landed nb (s' := { s' with heap := G }) (fun b o e => (gk b (ng e)).trans (fl4.1 b o e)) (fun b o e hb => by
        obtain ⟨sl, z⟩ := ((up.trans up3).trans up4) b o e hb
        exact ⟨sl, (gk b (nI e)).trans z⟩) os ag
      refine J4.laidN (h' := h4) (t' := s'.toks) (fun b o e => ?_) ga na ⟨⟨oe, vs, he, hz, hd⟩, ⟨oe, he⟩, fun _ _ ⟨o, v, q, r⟩ k => ⟨o, v, k o q, r⟩⟩
      by_cases hb : b = a
      · rw [hb] at e
        exact absurd (ga.symm.trans e) (by simp)
      · exact (gk b hb).symm.trans e
    have S3 := inv_toSuite J3 a
    have fall : Ps X.K E W φ0 I0 D0 (.exc c st') → wpAny (model X.prog X.w) X.A (handleBy (.ref a) X.env []) (SP X pins D0) X.xe { s' with heap := h3 } := fun w => by
      refine wpAny_handleBy_nil ?_
      obtain ⟨_, _, _, oe, vs, T, oT, ts', he, hz, hd, h1, hr⟩ := id fl3
      unfold PySem.passOn
      refine wpAny_bind (wpAny_field he hd h1 ?_)
      rw [if_neg (show ¬ ((Value.ref T == Value.none) = true) from by simp)]
      have fin : wpAny (model X.prog X.w) X.A (setFlight (.ref a) X.env.frame) (fun _ s4 => wpAny (model X.prog X.w) X.A (throw (.ref a) : Sem Flow) (SP X pins D0) X.xe s4) X.xe { s' with heap := h3 } := by
        rw [hf]
        refine PySem.HandSPX.setFlight_upZ fl3 fun h4 hh4 up4 => wpAny_throw (tk _ _ ⟨a, B, sI, pins, σ', H', cls, d, rfl, J, nb, (up.trans up3).trans up4, .inr (.inr (by rw [hs]; exact hh4)), na, os, ag, ?_⟩)
        rw [ecls]
        exact w d σ' H' φ' I' g R hx
      first
        | exact wpAny_bind (wpAny_pure (wpAny_bind fin))
        | exact wpAny_bind fin
    have test : ∀ {x C : Str} {np : Pos} {Q : Value → Shared → Prop} {E1 : Value → Shared → Prop}, Names X x (.ref (He.ga X.K C)) → Q (.ref (He.ga X.K C)) { s' with heap := h3 } → wpAny (model X.prog X.w) (X.A.mark (some (.ref a))) (eval (.Name x np) X.env) Q E1 { s' with heap := h3 } := fun {x C np Q E1} hc q => by
      obtain ⟨hg, hdbg, hm | ⟨hm, hv, hnn⟩⟩ := hc
      · exact ld_glob (X := X.suite a (X.pn ++ pins)) S3 hg hm q hdbg
      · exact ld_blt (X := X.suite a (X.pn ++ pins)) S3 hg hm hv q hnn hdbg
    have picked : ∀ {x C : Str} {r : List Hnd} {i : Option Nat} {m : MS}, Ps X.K E W φ0 I0 D0 (runH ys ((C, i, m) :: r) c st') → ∃ Y, c.cls = .own Y ∧ Y ∈ ys ∧ ((Y = C ∧ Ps X.K E W φ0 I0 D0 (runS i m c st')) ∨ (Y ≠ C ∧ Ps X.K E W φ0 I0 D0 (runH ys r c st'))) := by
      intro x C r i m w
      unfold runH at w
      cases eY : c.cls with
      | blt n => rw [eY] at w; exact w.elim
      | own Y =>
        rw [eY] at w
        simp only at w
        by_cases hy : ys.contains Y = true
        · rw [if_pos hy] at w
          refine ⟨Y, rfl, by simpa using hy, ?_⟩
          by_cases hC : Y = C
          · rw [if_pos hC] at w
            exact .inl ⟨hC, w⟩
          · rw [if_neg hC] at w
            exact .inr ⟨hC, w⟩
        · rw [if_neg hy] at w
          exact w.elim
    have go : ∀ {hds' : List ExceptHandler} {l' : List Hnd}, HsOk X E ys hds' l' → Ps X.K E W φ0 I0 D0 (runH ys l' c st') → wpAny (model X.prog X.w) X.A (handleBy (.ref a) X.env hds') (SP X pins D0) X.xe { s' with heap := h3 } := by
      intro hds' l' hk
      induction hk with
      | nil => exact fall
      | @only x C b₀ suite np pos' hds2 l2 m hc he hsu r ih =>
        intro w
        obtain ⟨Y, eY, hy, w⟩ := picked (x := x) w
        have hb1 := he Y hy
        rw [eY] at ecls
        have LM := PySem.W.exm_one (M := model X.prog X.w) (J3.kIn) LT (by rw [ecls]; exact hb1)
        refine wpAny_handleBy_cons (codeAny_handlers_test ?_) (by intro q; cases q)
        refine test hc (LM.here ?_)
        rcases w with ⟨hC, w⟩ | ⟨hC, w⟩
        · rw [decide_eq_true hC]
          refine codeAny_handlers_suite ?_
          refine PySem.HandSPX.lands_againZ fl3 fun h4 fl4 up4 => ?_
          obtain ⟨I2, R2, x2, rv⟩ := R.caught eY hx na
          have e2 : cls = .ref (He.ga X.K Y) := ecls
          have S4 := inv_toSuite (track h4 fl4 up4) a
          rw [e2] at S4
          have w2 : Ps X.K E WF φ' I2 D0 (m st') := Ps.grow (g.trans ⟨List.prefix_rfl, x2⟩) (Ps.noS w)
          refine wpAny_mono ((hsu a (X.pn ++ pins)).run [] _ _ _ D0 S4 ⟨st', φ', I2, R2, w2⟩) (fun f s6 hsp => ?_) (fun _ _ z => False.elim z)
          cases f with
          | next =>
            obtain ⟨σ6, H6, S6, q6⟩ := hsp
            exact ⟨_, _, inv_ofSuite S6 ok, q6⟩
          | brk =>
            obtain ⟨σ6, H6, S6, q6⟩ := hsp
            exact ⟨_, _, inv_ofSuite S6 ok, q6⟩
          | cont =>
            obtain ⟨σ6, H6, S6, q6⟩ := hsp
            exact ⟨_, _, inv_ofSuite S6 ok, q6⟩
          | ret u =>
            obtain ⟨v6, σ6, H6, S6, r6, q6⟩ := hsp
            exact ⟨_, _, _, inv_ofSuite S6 ok, r6, q6⟩
        · rw [decide_eq_false hC]
          show wpAny _ X.A (handleBy (.ref a) X.env hds2) _ _ _
          exact ih w
      | @as x C n i b₀ suite np pos' hds2 l2 m hi hln hc he hsu r ih =>
        intro w
        obtain ⟨Y, eY, hy, w⟩ := picked (x := x) w
        have hb1 := he Y hy
        rw [eY] at ecls
        have LM := PySem.W.exm_one (M := model X.prog X.w) (J3.kIn) LT (by rw [ecls]; exact hb1)
        refine wpAny_handleBy_cons (codeAny_handlers_test ?_) (by intro q; cases q)
        refine test hc (LM.here ?_)
        rcases w with ⟨hC, w⟩ | ⟨hC, w⟩
        · rw [decide_eq_true hC]
          refine codeAny_handlers_suite_as ?_
          refine PySem.HandSPX.lands_againZ fl3 fun h4 fl4 up4 => ?_
          obtain ⟨I2, R2, x2, rv⟩ := R.caught eY hx na
          have e2 : cls = .ref (He.ga X.K Y) := ecls
          have S4 := inv_toSuite (track h4 fl4 up4) a
          rw [e2] at S4
          refine store_ok (X := X.suite a (X.pn ++ pins)) (v := .ref a) S4 hN hi (.inl hln) rfl (fun s5 S5 => ?_) (.inr hln)
          have w2 := Ps.grow (g.trans ⟨List.prefix_rfl, x2⟩) (Ps.unS (show Ps X.K E W φ0 I0 D0 (unS i (m { st' with env := st'.env.set i (.sh c.toD) })) from w))
          refine wpAny_mono ((hsu a (X.pn ++ pins)).run [] _ _ _ _ S5 ⟨_, φ', I2, R2.setR (r := .sh c.toD) rv, w2⟩) (fun f s6 hsp => ?_) (fun _ _ z => False.elim z)
          have end_ : ∀ {σ6 : L2.St} {H6 : Hp} {Q : Shared → Prop}, Inv (X.suite a (X.pn ++ pins)) [] σ6 H6 s6 → (∀ s7, Inv X pins (σ6.set i none) H6 s7 → Q s7) →
              wpAny (model X.prog X.w) X.A (do bindName X.env n .none; unbindBehindTheSuite X.env n pos') (fun _ s7 => Q s7) X.xe s6 := fun {σ6 H6 Q} S6 hq => gone_ok (inv_ofSuite S6 ok) hN hi hln hq
          cases f with
          | next =>
            obtain ⟨σ6, H6, S6, q6⟩ := hsp
            exact end_ S6 fun s7 J7 => ⟨_, _, J7, q6⟩
          | brk =>
            obtain ⟨σ6, H6, S6, q6⟩ := hsp
            exact end_ S6 fun s7 J7 => ⟨_, _, J7, q6⟩
          | cont =>
            obtain ⟨σ6, H6, S6, q6⟩ := hsp
            exact end_ S6 fun s7 J7 => ⟨_, _, J7, q6⟩
          | ret u =>
            obtain ⟨v6, σ6, H6, S6, r6, q6⟩ := hsp
            exact end_ S6 fun s7 J7 => ⟨_, _, _, J7, r6, q6⟩
        · rw [decide_eq_false hC]
          show wpAny _ X.A (handleBy (.ref a) X.env hds2) _ _ _
          exact ih w
    exact go hh pr
  · cases f with
    | next =>
      obtain ⟨σ', H', J', q⟩ := hsp
      exact wpAny_execs_nil ⟨σ', H', J'.ofTry ok, q⟩
    | brk =>
      obtain ⟨σ', H', J', q⟩ := hsp
      exact ⟨σ', H', J'.ofTry ok, q⟩
    | cont =>
      obtain ⟨σ', H', J', q⟩ := hsp
      exact ⟨σ', H', J'.ofTry ok, q⟩
    | ret u =>
      obtain ⟨v, σ', H', J', r, q⟩ := hsp
      exact ⟨v, σ', H', J'.ofTry ok, r, q⟩
end
end PM
set_option Elab.async false
set_option linter.all false
set_option maxRecDepth 100000
set_option maxHeartbeats 2400000
namespace PM
open PySem PySem.Spec L2
/-! ### repr -/
def keyP : Key → PyData
  | .inl i => .int i
  | .inr s => .str s
mutual
def D.pyd : D → Option PyData
  | .non => some .none
  | .bl b => some (.bool b)
  | .int i => some (.int i)
  | .str s => some (.str s)
  | .tup ds => (D.pyds ds).map .tuple
  | .tpF ds => (D.pyds ds).map .tuple
  | .lst ds => (D.pyds ds).map .list
  | .lsF ds => (D.pyds ds).map .list
  | .dct kvs => (D.pydk kvs).map .dict
  | _ => none
def D.pyds : List D → Option (List PyData)
  | [] => some []
  | d :: ds => (D.pyd d).bind fun p => (D.pyds ds).map fun ps => p :: ps
def D.pydk : List (Key × D) → Option (List (PyData × PyData))
  | [] => some []
  | (k, d) :: r => (D.pyd d).bind fun p => (D.pydk r).map fun ps => (keyP k, p) :: ps
end
theorem pydk_eq : ∀ (kvs : List (Key × D)), D.pydk kvs = (D.pyds (kvs.map (·.2))).map fun ps => (kvs.map fun kv => keyP kv.1).zip ps
  | [] => rfl
  | (k, d) :: r => by
    simp only [D.pydk, List.map_cons, D.pyds, pydk_eq r]
    cases D.pyd d with
    | none => rfl
    | some p =>
      cases D.pyds (r.map (·.2)) with
      | none => rfl
      | some ps => rfl
/-- the loaded modules' dict stands in the part of the heap -/
def sysB (K : PySem.W.Frag) : Bool := match K.lookup sysModules with
  | some ⟨_, _, .dict _ _, _⟩ => true
  | _ => false
theorem sysB_ok {K : PySem.W.Frag} {h : Heap} (e : sysB K = true) (k : K.In h) : ∃ o es n, h.get? sysModules = some o ∧ o.data = .dict es n := by
  unfold sysB at e
  split at e
  · rename_i c d es n s q
    exact ⟨_, es, n, k _ _ q, rfl⟩
  · cases e
section
variable {X : Cx} {pins : List (Addr × Obj)} {σ : L2.St} {H : Hp} {s : Shared}
theorem keys_read {h : Heap} {w : World} {P : Program} : ∀ {es : List DictEntry} {vs : List (Key × Value)}, Pairs (mixKind P w) es vs → ReadsAll h (es.map (·.key)) (vs.map fun kv => keyP kv.1) [] ∧ es.map (·.val) = vs.map (·.2)
  | _, _, .nil => ⟨.nil, rfl⟩
  | _, _, .cons h1 h2 h3 => by
    obtain ⟨i1, i2⟩ := keys_read (h := h) h3
    refine ⟨?_, by rw [List.map_cons, List.map_cons, h2, i2]⟩
    rcases keyIs_shape h1 with ⟨i, t, e1, e2⟩ | ⟨x, t, e1, e2⟩
    · rw [List.map_cons, List.map_cons, e1, e2]
      exact ReadsAll.cons (as := []) (bs := []) (.int i t) i1
    · rw [List.map_cons, List.map_cons, e1, e2]
      exact ReadsAll.cons (as := []) (bs := []) (.str x t) i1
theorem kv_keys : ∀ {us : List (Key × V)} {vs : List (Key × Value)}, KV us vs → us.map (·.1) = vs.map (·.1) ∧ Vals (us.map (·.2)) (vs.map (·.2))
  | _, _, .nil => ⟨rfl, .nil⟩
  | _, _, .cons ⟨h1, h2⟩ r => by
    obtain ⟨i1, i2⟩ := kv_keys r
    exact ⟨by rw [List.map_cons, List.map_cons, h1, i1], .cons h2 i2⟩
theorem pyds_len : ∀ {ds : List D} {ps : List PyData}, D.pyds ds = some ps → ps.length = ds.length
  | [], _, e => by simp only [D.pyds, Option.some.injEq] at e; subst e; rfl
  | d :: ds, _, e => by
    simp only [D.pyds] at e
    obtain ⟨p, _, e2⟩ := Option.bind_eq_some_iff.mp e
    obtain ⟨qs, e3, rfl⟩ := Option.map_eq_some_iff.mp e2
    rw [List.length_cons, List.length_cons, pyds_len e3]
theorem reads_of {φ : List Addr} {J : Hp} (hs : sysB X.K = true) (I : Inv X pins σ H s) (hx : Ex J H) {d : D} {v : V} (h : Rv X.K φ J d v) : ∀ (p : PyData), D.pyd d = some p → ∀ (u : Value), RelV v u → ∃ as, Reads s.heap u p as ∧ sysModules ∉ as := by
  obtain ⟨osys, esys, nsys, hsys, dsys⟩ := sysB_ok hs I.kIn
  have nsq : ∀ {a : Addr} {o : Obj} {vs : Array Value} {n : Nat}, s.heap.get? a = some o → o.data = .seq vs n → a ≠ sysModules := fun {a o vs n} h1 h2 e => by
    rw [e, hsys] at h1
    cases h1
    rw [dsys] at h2
    cases h2
  have lstR : ∀ {a : Addr} {xs : List V} {ds : List D} {p : PyData} {u : Value}, SqL X.K H a xs → (∀ (ps : List PyData), D.pyds ds = some ps → ∀ (us : List Value), Vals xs us → ∃ as, ReadsAll s.heap us ps as ∧ sysModules ∉ as) → (D.pyds ds).map PyData.list = some p → RelV (.ref a) u → ∃ as, Reads s.heap u p as ∧ sysModules ∉ as := by
    intro a xs ds p u hq ih e r
    obtain ⟨ps, e1, rfl⟩ := Option.map_eq_some_iff.mp e
    obtain rfl : u = Value.ref a := r
    obtain ⟨its, rv, ⟨o, n, ho, hc, _, hd⟩, _⟩ := I.list hq
    obtain ⟨as, h1, h2⟩ := ih _ e1 _ rv
    exact ⟨_, Reads.list ho hc hd h1, fun z => (List.mem_cons.mp z).elim (fun z => nsq ho hd z.symm) h2⟩
  have tupR : ∀ {a : Addr} {xs : List V} {ds : List D} {p : PyData} {u : Value}, SqT X.K H a xs → (∀ (ps : List PyData), D.pyds ds = some ps → ∀ (us : List Value), Vals xs us → ∃ as, ReadsAll s.heap us ps as ∧ sysModules ∉ as) → (D.pyds ds).map PyData.tuple = some p → RelV (.ref a) u → ∃ as, Reads s.heap u p as ∧ sysModules ∉ as := by
    intro a xs ds p u hq ih e r
    obtain ⟨ps, e1, rfl⟩ := Option.map_eq_some_iff.mp e
    obtain rfl : u = Value.ref a := r
    obtain ⟨its, rv, ⟨o, ho, hc, n, hd⟩, _⟩ := I.tuple hq
    obtain ⟨as, h1, h2⟩ := ih _ e1 _ rv
    exact ⟨_, Reads.tuple ho hc hd h1, h2⟩
  refine Rv.rec (motive_1 := fun d v _ => ∀ (p : PyData), D.pyd d = some p → ∀ (u : Value), RelV v u → ∃ as, Reads s.heap u p as ∧ sysModules ∉ as) (motive_2 := fun ds vs _ => ∀ (ps : List PyData), D.pyds ds = some ps → ∀ (us : List Value), Vals vs us → ∃ as, ReadsAll s.heap us ps as ∧ sysModules ∉ as)
    ?_ ?_ ?_ ?_ ?_ ?_ ?_ ?_ ?_ ?_ ?_ ?_ ?_ ?_ ?_ ?_ ?_ ?_ h
  · intro p e u r; simp only [D.pyd, Option.some.injEq] at e; subst e; cases r; exact ⟨_, .none, by simp⟩
  · intro b p e u r; simp only [D.pyd, Option.some.injEq] at e; subst e; cases r; exact ⟨_, .bool b, by simp⟩
  · intro i p e u r; simp only [D.pyd, Option.some.injEq] at e; subst e; obtain ⟨t, rfl⟩ := r; exact ⟨_, .int i t, by simp⟩
  · intro z p e u r; simp only [D.pyd, Option.some.injEq] at e; subst e; obtain ⟨t, rfl⟩ := r; exact ⟨_, .str z t, by simp⟩
  · intro a vs ds h1 _ ih p e u r
    exact tupR (.inl (.inl (hx _ _ h1))) ih (by simpa only [D.pyd] using e) r
  · intro a vs ds h1 _ ih p e u r
    exact tupR (sqT_mono hx h1) ih (by simpa only [D.pyd] using e) r
  · intro a vs ds h1 _ ih p e u r
    exact lstR (.inl (.inl (hx _ _ h1))) ih (by simpa only [D.pyd] using e) r
  · intro a vs ds h1 _ ih p e u r
    exact lstR (sqL_mono hx h1) ih (by simpa only [D.pyd] using e) r
  · intro a us kvs od h1 h2 _ ih p e u r
    simp only [D.pyd, pydk_eq] at e
    obtain ⟨qs, e1, rfl⟩ := Option.map_eq_some_iff.mp e
    obtain ⟨ps, e2, rfl⟩ := Option.map_eq_some_iff.mp e1
    obtain rfl : u = Value.ref a := r
    obtain ⟨_, na, vs, kv, o, es, ep, ho, hex, hd, hkeys, hp, _⟩ := dk_rd I.hok (.inr ⟨_, hx _ _ h1⟩)
    obtain ⟨k1, k2⟩ := keys_read (h := s.heap) hp
    obtain ⟨k3, k4⟩ := kv_keys kv
    obtain ⟨as, h3, h4⟩ := ih _ e2 _ k4
    have ek : vs.map (fun kv => keyP kv.1) = kvs.map fun kv => keyP kv.1 := by
      have : vs.map (·.1) = kvs.map (·.1) := k3.symm.trans h2
      calc vs.map (fun kv => keyP kv.1) = (vs.map (·.1)).map keyP := by rw [List.map_map]; rfl
        _ = (kvs.map (·.1)).map keyP := by rw [this]
        _ = _ := by rw [List.map_map]; rfl
    have hl := pyds_len e2
    simp only [List.length_map] at hl
    refine ⟨_, Reads.dict (kvs := (kvs.map fun kv => keyP kv.1).zip ps) ho hex.1 hd (by rw [List.map_fst_zip (by simp; omega), ← ek]; exact k1) (by rw [List.map_snd_zip (by simp; omega), k2]; exact h3), ?_⟩
    intro z
    rw [List.cons_append, List.nil_append] at z
    rcases List.mem_cons.mp z with z | z
    · rw [← z] at na
      simp at na
    · exact h4 z
  · intro a us kvs od h1 h2 _ ih p e; simp [D.pyd] at e
  · intro n a h1 p e; simp [D.pyd] at e
  · intro C a dx us fs h1 h2 _ ih p e; simp [D.pyd] at e
  · intro C a h1 p e; simp [D.pyd] at e
  · intro C a dx us fs h1 h2 h3 _ ih p e; simp [D.pyd] at e
  · intro C p e; simp [D.pyd] at e
  · intro v p e; simp [D.pyd] at e
  · intro ps e us r; simp only [D.pyds, Option.some.injEq] at e; subst e; cases r; exact ⟨_, .nil, by simp⟩
  · intro d v ds vs _ _ ih1 ih2 ps e us r
    simp only [D.pyds] at e
    obtain ⟨p, e1, e2⟩ := Option.bind_eq_some_iff.mp e
    obtain ⟨qs, e3, rfl⟩ := Option.map_eq_some_iff.mp e2
    cases r with
    | cons r1 r2 =>
      obtain ⟨as, a1, a2⟩ := ih1 _ e1 _ r1
      obtain ⟨bs, b1, b2⟩ := ih2 _ e3 _ r2
      exact ⟨_, .cons a1 b1, fun z => (List.mem_append.mp z).elim a2 b2⟩
end
/-- repr(x) -/
def opRepr (x : D) : Option RV := x.pyd.bind fun p => if p.showable && (decide (p.depth ≤ 64) && decide (p.shown.length ≤ lim)) then some (.sh (.str p.shown)) else none
section
variable {X : Cx} {E : Ent}
theorem seen_pyd {pins : List (Addr × Obj)} {σ : L2.St} {H : Hp} {s : Shared} {φ : List Addr} {J : Hp} (hs : sysB X.K = true) (I : Inv X pins σ H s) (hx : Ex J H) {d : D} {v : V} (h : Seen X.K φ J H d v) {p : PyData} (e : D.pyd d = some p) {u : Value} (r : RelV v u) : ∃ as, Reads s.heap u p as ∧ sysModules ∉ as := by
  rcases h with h | ⟨a, c, rfl, rfl, o, h1, h2, h3⟩
  · exact reads_of hs I hx h p e u r
  · -- a thing of one's own: shared for the look
    have hx2 : ∀ u : HO, Ex (upd J a u) (upd H a u) := fun u b w q => by
      by_cases hb : b = a
      · rw [hb, upd_same] at q ⊢; exact q
      · rw [upd_ne hb] at q ⊢; exact hx b w q
    have go : ∀ od, Inv X pins σ (upd H a (lk od o)) s → ∃ as, Reads s.heap u p as ∧ sysModules ∉ as := fun od I2 =>
      reads_of hs I2 (hx2 _) ((h3.mono List.prefix_rfl (ex_upd h2)).frz (od := od) upd_same) p e u r
    cases h3 with
    | ls _ => exact go default (by rw [show lk default (.lst _) = .lst _ from rfl, upd_self h1]; exact I)
    | dc _ _ => obtain ⟨od, I2⟩ := I.lock h1 True.intro; exact go od I2
    | dt _ _ => obtain ⟨od, I2⟩ := I.lock h1 True.intro; exact go od I2
    | ins _ _ => exact go default (by rw [show lk default (.ins _ _ _) = .ins _ _ _ from rfl, upd_self h1]; exact I)
    | tab _ _ => exact go default (by rw [show lk default (.tbl _) = .tbl _ from rfl, upd_self h1]; exact I)
theorem cl_repr (hs : sysB X.K = true) (hg : X.A.guards = some []) (hu : X.A.units + 70 < cLine) : CallR X (.builtin "repr") (rdC1 X.K E opRepr) := fun pins s σ H xs us Q I rv ⟨v, e0, σ', st, φ, J, x, r, R, hx, e, q⟩ => by
  subst e0
  obtain ⟨u, rfl, r1⟩ := vals1 rv
  unfold opRepr at e
  obtain ⟨p, e1, e2⟩ := Option.bind_eq_some_iff.mp e
  by_cases c : (p.showable && (decide (p.depth ≤ 64) && decide (p.shown.length ≤ lim))) = true
  · rw [if_pos c] at e2
    cases e2
    obtain ⟨c1, c2⟩ := Bool.and_eq_true_iff.mp c
    obtain ⟨c2, c3⟩ := Bool.and_eq_true_iff.mp c2
    have c2 := of_decide_eq_true c2
    have c3 := Nat.le_trans (of_decide_eq_true c3) lim_le
    obtain ⟨as, hr, hsm⟩ := seen_pyd hs I R.ext hx e1 r1
    have fin : ∀ (h' : Heap) (t tk : Tok), (∀ b o, s.heap.get? b = some o → h'.get? b = some o) → EP X pins σ Q (.str p.shown t) { s with heap := h', toks := tk } := fun h' t tk k =>
      ⟨.str p.shown, H, I.kept (t' := tk) k, ⟨t, rfl⟩, q (.str p.shown) H J Stp.refl R (.str _) fun _ _ z => by cases z⟩
    cases hr with
    | none => exact PySem.P.repr_of_none (fin s.heap _ _ fun _ _ z => z)
    | bool b =>
      have z : (PyData.bool b).shown = (if b then "True" else "False" : Str) := by simp only [PyData.shown]
      rw [z] at fin
      refine PySem.P.repr_of_bool ?_
      cases b <;> exact fin s.heap _ _ fun _ _ z => z
    | int i t =>
      have z : (PyData.int i).shown = ((toString i : String) : Str) := by simp only [PyData.shown]
      rw [z] at fin
      simp only [PyData.showable, decide_eq_true_eq] at c1
      exact PySem.P.repr_of_int c1 (fin s.heap _ _ fun _ _ z => z)
    | str z t =>
      have z : (PyData.str z).shown = reprText z := by simp only [PyData.shown]
      rw [z] at fin c3
      exact PySem.P.repr_of_str (fin s.heap _ _ fun _ _ z => z) c3
    | list h1 h2 h3 h4 => exact repr_of_reads' (.list h1 h2 h3 h4) c1 (fun _ => hsm) hg (by omega) (fun _ _ z => z) (fun h' u tk k => fin h' u tk k) c3
    | tuple h1 h2 h3 h4 => exact repr_of_reads' (.tuple h1 h2 h3 h4) c1 (fun _ => hsm) hg (by omega) (fun _ _ z => z) (fun h' u tk k => fin h' u tk k) c3
    | dict h1 h2 h3 h4 h5 => exact repr_of_reads' (.dict h1 h2 h3 h4 h5) c1 (fun _ => hsm) hg (by omega) (fun _ _ z => z) (fun h' u tk k => fin h' u tk k) c3
  · rw [if_neg c] at e2
    cases e2
end
/-! ### e.f, e an instance or a caught exception -/
def xthing : RV → Option (Str × List (Str × D))
  | .sh (.exn C fs) => some (C, fs)
  | _ => none
def mFldX (Xs : List Str) (f : Str) (a : M RV) : M RV := a.bor.bind fun r st => match xthing r with
  | some (C, fs) => if Xs.contains C then (match fs.lookup f with
    | some d => .ok (.sh d) st
    | none => .stuck) else .stuck
  | none => .stuck
def xfB (C f : Str) (K : PySem.W.Frag) : Bool := L2.xfB K (He.ga K C) && decide (PySem.W.findIn K (.ref (He.ga K C)) f = some none)
section
variable {X : Cx} {E : Ent} {W : WX} {pos : Pos} {e : Expr} {m : M RV} {f : Str} {Xs : List Str}
theorem sr_fldX (hc : ∀ C ∈ Xs, PM.xfB C f X.K = true) (h : SR X E W e m) (hb : attributeBase e f X.env (eval e X.env) = eval e X.env := by rfl) : SR X E W (.Attribute e f pos) (mFldX Xs f m) := ⟨fun pins s σ H Q I ⟨st, φ, J, R, p⟩ => by
  refine attr_of hb (thn ((sr_bor h).run pins s σ H (fun v H1 => ∃ (a C dd : Addr) (us : List (Str × V)) (w : V), v = .ref a ∧ XfC X.K C ∧ PySem.W.findIn X.K (.ref C) f = some none ∧ H1 a = some (exh a (.ref C) (some dd)) ∧ H1 dd = some (.xd us) ∧ us.lookup f = some w ∧ Q w H1) I ?_) fun u s1 ⟨x, H1, I1, rx, a, C, dd, us, w, ex, T, hno, ea, ed, l, q⟩ => ?_)
  · refine ⟨st, φ, J, R, (Po.bind p).imp fun r H1 st1 φ1 I1 S1 R1 p1 v hv hnw => ?_⟩
    clear hnw
    cases r with
    | ow c => exact p1.elim
    | lo i => exact p1.elim
    | sh d =>
      cases d <;> try exact p1.elim
      rename_i C fs
      simp only [xthing] at p1
      by_cases hC : Xs.contains C = true
      · rw [if_pos hC] at p1
        cases ql : fs.lookup f with
        | none => rw [ql] at p1; exact p1.elim
        | some d =>
          rw [ql] at p1
          cases (show Rv X.K φ1 I1 (.exn C fs) v from hv) with
          | exn e1 e2 e3 e4 =>
            obtain ⟨w, g1, g2⟩ := lookup_rel e3 e4 ql
            obtain ⟨c1, c2⟩ := Bool.and_eq_true_iff.mp (hc C (by simpa using hC))
            exact ⟨_, _, _, _, w, rfl, xfB_ok c1, of_decide_eq_true c2, R1.ext _ _ e1, R1.ext _ _ e2, g1, p1 H1 φ1 I1 Stp.refl R1 w g2 Nw.sh⟩
      · rw [if_neg hC] at p1
        exact p1.elim
  · subst ex
    obtain rfl : u = Value.ref a := rx
    have x1 : ObjOk X.prog X.w H1 s1.heap a (exh a (.ref C) (some dd)) := I1.hok a _ ea
    obtain ⟨⟨oe, vs, ha, hz, hd⟩, _, _⟩ := x1
    have x2 : ObjOk X.prog X.w H1 s1.heap dd (.xd us) := I1.hok dd _ ed
    obtain ⟨mA, hns, hr⟩ := x2
    obtain ⟨od, ho, hl⟩ := lookIn_ns hns
    obtain ⟨u, hu, ru⟩ := RelO.some_of (v := w) (o := mA f) (by rw [← l]; exact hr f)
    have J : PySem.W.InstAt s1.heap a oe C (some od) := ⟨ha, hz.1, by unfold PySem.W.notCls; rw [hd] <;> rfl, by rw [hz.2]; exact ho⟩
    exact PySem.HandSPX.exc_get I1.kIn J T.ga T.gg T.exC (PySem.W.findObj_own T.hdC hno rfl (by rw [hl, hu])) (handed_of ru) ⟨w, H1, I1.tok _, ru, q⟩⟩
end
end PM
set_option Elab.async false
set_option linter.all false
set_option maxRecDepth 100000
set_option maxHeartbeats 2400000
/-! ### isinstance of a caught exception -/
namespace PySem.W
open PySem PySem.Spec PySem.Calls PyProof.Rows
section
variable {prog : Program} {w : World} {A : Around} {E : Value → Shared → Prop} {s : Shared} {K : Frag} {x D : Addr} {ox : Obj} {od : Option Obj}
theorem findObj_dataX {C : Addr} {name : Str} {a g : Value} (hc : (clsIn K C).isSome = true) (ha : findIn K (.ref C) name = some (some a)) (hg : specialIn K a "__get__" = some (some g)) (ht : takesIn K a = some true) : findObj K C od name = some (.bind g a) := by
  cases od with
  | none => exact findObj_dataN hc ha hg ht
  | some o => exact findObj_data hc ha hg ht
theorem xkin_class {Q : Option Value → Shared → Prop} (T : L2.ExcC K D) (X : K.In s.heap) (I : InstAt s.heap x ox D od) (h : Q (some (.ref D)) { s with toks := s.toks + 1 }) : wpAny (model prog w) A (getAttr? (.ref x) "__class__") Q E s := by
  have hf : findObj K D od "__class__" = some (.bind (.builtin "getset_descriptor.__get__") (.builtin "object.__class__")) := findObj_dataX (by obtain ⟨cd, hc, _⟩ := any_some T.hd; rw [hc]; rfl) T.ha T.hn T.ht
  obtain ⟨hp, g, d, t, os⟩ := s
  have L0 := I.type (M := model prog w)
  have L1 := looks_findIn (M := model prog w) X T.hg
  have L2' := looks_findIn (M := model prog w) X T.hk
  have L3 := looks_find (M := model prog w) X I hf
  have sub : Looks (model prog w) hp (isInstance (.ref x) (.type "BaseException")) true := L0.andThen (looks_subIn X T.hs)
  have b0 : (false && onTheHeap (Value.builtin "BaseException.__getattribute__")) = false := rfl
  have b2 : (Value.builtin "BaseException.__getattribute__" == Value.builtin "object.__getattribute__") = false := by decide +kernel
  have b1 : (onTheHeap (Value.ref D) && Value.builtin "BaseException.__getattribute__" == Value.builtin "object.__getattribute__") = false := by rw [b2]; rfl
  unfold getAttr? getAttrBy? getAttrBy
  refine wpAny_bind (wpAny_mkText (wpAny_bind (wpAny_attempt (wpAny_holding (wpAny_bind (L0.at (wpAny_bind (L1.at ?_))))))))
  show wpAny _ _ (if (onTheHeap (Value.ref D) && Value.builtin "BaseException.__getattribute__" == Value.builtin "object.__getattribute__") = true then _ else _) _ _ _
  rw [b1, if_neg Bool.false_ne_true]
  unfold getAttrByItsOwn hookBefore
  refine wpAny_bind ?_
  rw [if_pos (show onTheHeap (Value.ref D) = true from rfl)]
  refine L2'.at (wpAny_bind (wpAny_attempt (wpAny_holding ?_)))
  unfold callGetattribute
  rw [b0, if_neg Bool.false_ne_true]
  unfold boundAndCalled
  rw [PySem.F.excAttr_ValueError.ga.bind (.ref x)]
  refine wpAny_bind (wpAny_pure ?_)
  show wpAny _ _ (call (.builtin "BaseException.__getattribute__") [.ref x, .str "__class__" t]) _ _ _
  refine wpAny_call (codeAny_call_builtin PySem.F.excAttr_ValueError.ga.plain PySem.F.entry_bexc_ga ?_)
  refine @check_slot (model prog w) _ _ ⟨hp, g, d, t + 1, os⟩ "BaseException.__getattribute__" "BaseException" "__getattribute__" (.ref x) [.str "__class__" t] [] _ (by decide +kernel) (by decide +kernel) sub (PySem.F.args_bexc_ga (.ref x) (.str "__class__" t)) ?_
  unfold Builtin.«object.__getattribute__»
  refine wpAny_bind (wpAny_of_eq (a := ((Value.ref x : Value), [Value.str "__class__" t])) (by first | rfl | (simp only [slotArgs]; rfl)) ?_)
  refine wpAny_bind (wpAny_pure (wpAny_bind (L0.at (wpAny_bind (L3.at ?_)))))
  show wpAny _ _ (holding [Value.builtin "object.__class__"] (call (.builtin "getset_descriptor.__get__") [.builtin "object.__class__", .ref x, .ref D]) >>= ret) _ _ _
  refine wpAny_bind (wpAny_holding (wpAny_call (class_get (s := ⟨hp, g, d, t + 1, os⟩) (ox := ox) (od := od) X I T.hm ?_)))
  refine wpAny_pure ?_
  show wpAny _ _ (handedOut (.ref D)) _ _ _
  rw [handedOut_of (v := .ref D) rfl]
  first
    | exact wpAny_pure (wpAny_pure h)
    | exact wpAny_pure h
    | exact wpAny_pure (wpAny_bind (wpAny_pure (wpAny_pure h)))
theorem kitX_exh (T : L2.ExcC K D) : KitX K (.ref x) (.ref D) (fun h => ∃ ox od, InstAt h x ox D od) where
  ty := fun _ _ _ ⟨_, _, I⟩ => I.type
  it := fun _ _ X _ => by
    obtain ⟨cd, hc, _⟩ := any_some T.hd
    unfold clsIn at hc
    split at hc
    · rename_i c' d' cd' sl' ho
      intro A' Q' E' s' k q
      unfold isType loadHead
      exact wpAny_bind (wpAny_loadPart (k _ _ (X _ _ ho)) (wpAny_pure q))
    · cases hc
  ne := fun h tp dd its n sl X htp => by
    obtain ⟨cd, hc, _⟩ := any_some T.hd
    refine Bool.eq_false_iff.mpr fun q => ?_
    have e : D = tp := Value.ref.inj (beq_iff_eq.mp q)
    subst e
    unfold clsIn at hc
    split at hc
    · rename_i c' d' cd' sl' ho
      have z := (X _ _ ho).symm.trans htp
      cases z
    · cases hc
  ca := fun X ⟨ox, od, I⟩ k => xkin_class T X I k
end
end PySem.W
namespace PM
open PySem PySem.Spec L2
/-- an exception's class and the class that is asked for -/
def excCB (C : Str) (K : PySem.W.Frag) : Bool := decide (PySem.W.findIn K (.ref (He.ga K C)) "__getattribute__" = some (some (.builtin "BaseException.__getattribute__"))) && (decide (PySem.W.findIn K (.ref (He.ga K C)) "__getattr__" = some none) && (decide (PySem.W.subIn K (.ref (He.ga K C)) (.type "BaseException") = some true) &&
  (PySem.W.hasDictIn K (He.ga K C) && (decide (PySem.W.findIn K (.ref (He.ga K C)) "__class__" = some (some (.builtin "object.__class__"))) && (decide (PySem.W.specialIn K (.builtin "object.__class__") "__get__" = some (some (.builtin "getset_descriptor.__get__"))) && (decide (PySem.W.takesIn K (.builtin "object.__class__") = some true) &&
  decide (PySem.W.mroIn K (He.ga K C) (.type "object") = some true)))))))
theorem excCB_ok {C : Str} {K : PySem.W.Frag} (h : excCB C K = true) : ExcC K (He.ga K C) := by
  unfold excCB at h
  simp only [Bool.and_eq_true, decide_eq_true_eq] at h
  obtain ⟨h1, h2, h3, h4, h5, h6, h7, h8⟩ := h
  exact ⟨h1, h2, h3, h4, h5, h6, h7, h8⟩
def excOf : RV → Option Str
  | .sh (.exn C _) => some C
  | .sh (.exn0 C) => some C
  | _ => none
/-- isinstance(a, b): a caught error by the table tx, else as in mIsi -/
def mIsiX (tx tab : IsiT) (bs : List Str) (a b : M RV) : M RV := a.bor.bind fun r => b.bor.bind fun s st => match excOf r with
  | some C => (match (tgtOf s).bind fun t => tx.lookup (C, t) with
    | some c => .ok (.sh (.bl c)) st
    | none => .stuck)
  | none => match thing st r with
    | some (C, _) => (match (tgtOf s).bind fun t => tab.lookup (C, t) with
      | some c => .ok (.sh (.bl c)) st
      | none => .stuck)
    | none => at2 (opIsi2 bs) r s st
def IsiXOk (K : PySem.W.Frag) (tx : IsiT) : Prop := ∀ C t b, tx.lookup (C, t) = some b → excCB C K = true ∧ isiRB C t b K = true
def rIsiX (K : PySem.W.Frag) : List V → Hp → VK → Prop := fun vs H Q => ∃ (a D : Addr) (d : Option Addr) (c : V) (cv : Value) (b : Bool) (us : Option (List (Str × V))), vs = [.ref a, c] ∧ H a = some (exh a (.ref D) d) ∧ (match d, us with | none, none => True | some dx, some us => H dx = some (.xd us) | _, _ => False) ∧ ExcC K D ∧ (∀ u, RelV c u → u = cv) ∧ PySem.W.kitOne K (.ref D) cv = some b ∧ Q (.bl b) H
section
variable {X : Cx} {E : Ent} {W : WX} {pos p : Pos} {x : Str} {a b : Expr} {ma mb : M RV} {tx tab : IsiT} {bs : List Str}
theorem call_isiX : CallR X (.builtin "isinstance") (rIsiX X.K) := by
  intro pins s σ H xs us Q I r h
  obtain ⟨a, D, d, c, cv, b, ud, rfl, ha, hd, T, hcv, e, q⟩ := h
  cases r with
  | cons rx rr =>
    cases rr with
    | cons rt rr =>
      cases rr
      cases rx
      have ec := hcv _ rt
      subst ec
      have x1 : ObjOk X.prog X.w H s.heap a (exh a (.ref D) d) := I.hok a _ ha
      obtain ⟨⟨oe, vs, ho, hz, hv⟩, _, _⟩ := x1
      have J : ∃ ox od, PySem.W.InstAt s.heap a ox D od := by
        obtain ⟨oc, dd, oda, osl⟩ := oe
        obtain ⟨h1, h2⟩ := hz
        dsimp only at h1 h2 hv
        subst h1 h2 hv
        cases dd with
        | none => exact ⟨_, none, ho, rfl, rfl, trivial⟩
        | some dx =>
          cases ud with
          | none => exact hd.elim
          | some us =>
            have x2 : ObjOk X.prog X.w H s.heap dx (.xd us) := I.hok dx _ hd
            obtain ⟨mA, ⟨od, _, _, ho2, _⟩, _⟩ := x2
            exact ⟨_, some od, ho, rfl, rfl, ho2⟩
      exact PySem.W.kia_one (PySem.W.kitX_exh T) I.kIn J e (fun z => nomatch z) fun tk => ⟨.bl b, H, I.kept (t' := tk) fun _ _ z => z, rfl, q⟩
theorem cls_rel {w : V} {cv : Value} (h : ClsV w cv) : ∀ u, RelV w u → u = cv := fun u r => h.eq r
theorem sr_isiX (hx : IsiXOk X.K tx) (ht : IsiOk X.K tab) (hb : IsiDOk X.K bs) (hg : Gl X x) (hm : X.mg x = none) (hv : bootBuiltins x = some (.builtin "isinstance")) (ha : SR X E W a ma) (hb2 : SR X E W b mb) (hn : x ≠ "__name__" := by decide) (hdb : (x == ("__debug__" : Str)) = false := by decide)
    (he : starEach [a, b] X.env = (false, eval a X.env) :: starEach [b] X.env := by rfl) (he2 : starEach [b] X.env = (false, eval b X.env) :: starEach [] X.env := by rfl) (hpl : (backTo pos (starEach [b] X.env)).any (·.1) = false := by rfl) :
    SR X E W (.Call (.Name x p) [a, b] [] pos) (mIsiX tx tab bs ma mb) := PEi (pe_callB (r := fun vs H Q => rIsiX X.K vs H Q ∨ rdC2 X.K E (opIsi2 bs) vs H Q ∨ rIsi X.K vs H Q) (fun pins s σ H xs us Q I rv q => q.elim (fun q => call_isiX pins s σ H xs us Q I rv q) fun q => q.elim (fun q => cl_isi2 hb pins s σ H xs us Q I rv q) fun q => call_isi pins s σ H xs us Q I rv q) hg hm hv (pa_cons (sr_bor ha) (pa_cons (sr_bor hb2) pa_nil he2) he) hn hdb he hpl) fun σ H Q ⟨st, φ, I, R, p⟩ => by
  refine ⟨st, φ, I, R, (Po.bind p).imp fun x H1 st1 φ1 I1 S1 R1 p1 v hv hnv => ?_⟩
  clear hnv
  refine ⟨st1, φ1, I1, R1, (Po.bind p1).imp fun y H2 st2 φ2 I2 S2 R2 p2 w hw hnw => ?_⟩
  clear hnw
  cases ex : excOf x with
  | some C =>
    rw [ex] at p2
    simp only at p2
    cases e2 : (tgtOf y).bind fun t => tx.lookup (C, t) with
    | none => rw [e2] at p2; exact p2.elim
    | some c =>
      rw [e2] at p2
      obtain ⟨t, e3, e4⟩ := Option.bind_eq_some_iff.mp e2
      obtain ⟨c1, c3⟩ := hx C t c e4
      refine .inl ?_
      cases x with
      | ow c => cases ex
      | lo i => cases ex
      | sh d =>
        cases d <;> try (cases ex; done)
        · cases ex
          cases (show Rv X.K φ2 I2 (.exn0 C) v from (show Rv X.K φ1 I1 (.exn0 C) v from hv).mono S2.pf S2.ii) with
          | exn0 k1 => exact ⟨_, _, none, w, _, c, none, rfl, R2.ext _ _ k1, trivial, excCB_ok c1, cls_rel (tgt_cls hw e3), of_decide_eq_true c3, p2 H2 φ2 I2 Stp.refl R2 _ (.bl c) Nw.sh⟩
        · cases ex
          rename_i fs
          cases (show Rv X.K φ2 I2 (.exn C fs) v from (show Rv X.K φ1 I1 (.exn C fs) v from hv).mono S2.pf S2.ii) with
          | exn k1 k2 _ _ => exact ⟨_, _, some _, w, _, c, some _, rfl, R2.ext _ _ k1, R2.ext _ _ k2, excCB_ok c1, cls_rel (tgt_cls hw e3), of_decide_eq_true c3, p2 H2 φ2 I2 Stp.refl R2 _ (.bl c) Nw.sh⟩
  | none =>
    rw [ex] at p2
    simp only at p2
    refine .inr ?_
    cases e : thing st2 x with
    | none =>
      rw [e] at p2
      obtain ⟨x', y', r, ex, ey, e, p3⟩ := Po.at2 p2
      exact .inl ⟨v, w, rfl, σ, st2, φ2, I2, x', y', r, R2, hv.seen S2 R2 ex, hw.seen Stp.refl R2 ey, e, fun u H' I' S' R' hr hn => p3 H' φ2 I' S' R' u hr (Nw.far (S1.trans S2).there hn)⟩
    | some t =>
      obtain ⟨C, fs⟩ := t
      rw [e] at p2
      obtain ⟨a1, d1, u1, rfl, k1, _, _⟩ := hv.thing S2 R2 e
      simp only at p2
      cases e2 : (tgtOf y).bind fun t => tab.lookup (C, t) with
      | none => rw [e2] at p2; exact p2.elim
      | some c =>
        rw [e2] at p2
        obtain ⟨t, e3, e4⟩ := Option.bind_eq_some_iff.mp e2
        obtain ⟨c1, c2, c3⟩ := ht C t c e4
        simp only [isiCB, clsOkB, Bool.and_eq_true] at c2
        obtain ⟨z1, z2, z3, z4⟩ := c2
        exact .inr ⟨_, _, .ref (He.ga X.K C), _, _, rfl, tgt_cls hw e3, .base (.ins k1 c1 (of_decide_eq_true z1) (of_decide_eq_true z2) (of_decide_eq_true z3) (of_decide_eq_true z4)), of_decide_eq_true c3, p2 H2 φ2 I2 Stp.refl R2 _ (.bl c) Nw.sh⟩
end
end PM
set_option Elab.async false
set_option linter.all false
set_option maxRecDepth 100000
set_option maxHeartbeats 1200000
namespace PM
open PySem PySem.Spec L2
/-! ### defs with defaults; calls with keywords -/
theorem rvs_pair {K : PySem.W.Frag} {φ : List Addr} {I : Hp} {ds : List D} {vs : List V} : Rvs K φ I ds vs ↔ Paired (Rv K φ I) ds vs := by
  constructor
  · intro h
    induction ds generalizing vs with
    | nil => cases h; exact .nil
    | cons d ds ih => cases h with | cons h1 h2 => exact .cons h1 (ih h2)
  · intro h
    induction h with
    | nil => exact .nil
    | cons h1 _ ih => exact .cons h1 ih
section
variable {P : Program} {w : World} {K : PySem.W.Frag} {mg : Str → Option Value} {base : Heap} {k : Nat} {f : Addr} {m : Nat} {ks : List Str} {name qual : Str} {params : Arguments} {body : List Stmt} {scope : Scope} {N ps : List Str} {ms : MS} {kws : List (Str × V)} {dvs : List V} {fd : FuncData}
/-- THE RULE: the arguments in the call's order, and the defaults, go to the parameters as pick tells; u0: the defaults' values -/
theorem fn_g {dV kV doc pm cdv ct oc : Value} {an od : Option Addr} {osl : Array (Option Value)} {u0 : List Value} {dd : List D} (pick : ∀ {α : Type}, List α → List α → List α) (hpick : ∀ {α β : Type} (R : α → β → Prop) (xs xd : List α) (ys yd : List β), Paired R xs ys → Paired R xd yd → Paired R (pick xs xd) (pick ys yd))
    (lk : K.lookup f = some ⟨oc, od, .func (PySem.W.fnOf name qual params body scope dV kV doc pm an cdv ct), osl⟩) (hcd : PySem.W.codeIn K cdv qual = true) (S : FnScope N ps scope) (h0 : Vals dvs u0) (hdd : ∀ φ I, Rvs K φ I dd dvs)
    (hb : ∀ (s : Shared) (us : List Value), K.In s.heap → us.length = m + ks.length → BindsTo s (PySem.W.fnOf name qual params body scope dV kV doc pm an cdv ct) ⟨us.take m, ks.zip (us.drop m)⟩ (ps.zip (pick us u0)))
    (hlen : ∀ {α : Type} (xs xd : List α), xs.length = m + ks.length → xd.length = dvs.length → (pick xs xd).length = ps.length) (hbody : Bod P w K mg base k f qual scope N cdv body ms) :
    FnC P w K mg base (k + 1) f m ks (fun ds store => runF ms (N.length - ps.length) (pick ds dd) store) := by
  intro A outer s H us vs Q E hr hgd e0 hv hl ⟨ds, store, φ, I, hq, hvs, hf⟩
  have KX : K.In s.heap := e0.mod.kin.keeps fun b o e => (e0.bs b o e).1
  have hlv : vs.length = m + ks.length := by rw [hv.length]; exact hl
  have hld : ds.length = m + ks.length := by rw [hvs.len]; exact hlv
  have hp : Rvs K φ I (pick ds dd) (pick vs dvs) := rvs_pair.mpr (hpick _ _ _ _ _ (rvs_pair.mp hvs) (rvs_pair.mp (hdd φ I)))
  have hpV : Vals (pick vs dvs) (pick us u0) := hpick _ _ _ _ _ hv h0
  refine StX.run_bnd (ps := ps) (G := fun vs' H' => vs' = pick vs dvs ∧ H' = H) lk hcd S hr e0 (fun A' Ex Q' h' => ?_) fun s2 H2 vs' hG hr' => ?_
  · exact hb s us KX hl _ _ _ _ (h' s H (pick vs dvs) (pick us u0) e0 Un.refl rfl (fun _ _ z => z) hpV (hlen _ _ hlv rfl) ⟨rfl, rfl⟩)
  · obtain ⟨rfl, rfl⟩ := hG
    have hpl : ps.length ≤ N.length := by
      have := congrArg List.length S.pre
      rw [List.length_take] at this
      omega
    have hpd : (pick ds dd).length = ps.length := hlen _ _ hld (by rw [(hdd φ I).len])
    refine ⟨_, hbody A outer s2 H2 (.at H2 φ I) E hr' (by rw [show (A.deeper _).guards = A.guards from rfl]; exact hgd) (takes_of rfl rfl rfl rfl), ?_⟩
    refine rd_body (ms := ms) (Rq.enter hq hp (by omega)) ?_
    rw [hpd]
    exact hf
/-- .. some defaults fill up -/
theorem fn_k {dd : List D} (F : FunD K name qual params body scope dvs kws f fd) (S : FnScope N ps scope) (hd : dvs ≠ []) (pick : ∀ {α : Type}, List α → List α → List α) (hpick : ∀ {α β : Type} (R : α → β → Prop) (xs xd : List α) (ys yd : List β), Paired R xs ys → Paired R xd yd → Paired R (pick xs xd) (pick ys yd))
    (hdd : ∀ φ I, Rvs K φ I dd dvs)
    (hb : ∀ (T : Addr) (kV doc pm : Value) (an : Option Addr) (cdv ct : Value) (us its : List Value), us.length = m + ks.length → its.length = dvs.length →
      ∃ q, bindArgs (PySem.W.fnOf name qual params body scope (.ref T) kV doc pm an cdv ct) ⟨us.take m, ks.zip (us.drop m)⟩ = seqItems? (.ref T) >>= q ∧ q (some its.toArray) = pure (ps.zip (pick us its)))
    (hlen : ∀ {α : Type} (xs xd : List α), xs.length = m + ks.length → xd.length = dvs.length → (pick xs xd).length = ps.length) (hbody : ∀ cdv, Bod P w K mg base k f qual scope N cdv body ms) :
    FnC P w K mg base (k + 1) f m ks (fun ds store => runF ms (N.length - ps.length) (pick ds dd) store) := by
  obtain ⟨oc, od, dV, kV, doc, pm, an, cdv, ct, osl, rfl, lk, hcd, hD, _⟩ := F.ex
  rcases hD with ⟨e, _⟩ | ⟨_, T, o, its, n, rfl, lT, oT, rT⟩
  · exact absurd e hd
  · refine fn_g pick hpick lk hcd S rT hdd (fun s us X hl => ?_) hlen (hbody cdv)
    obtain ⟨q, e1, e2⟩ := hb T kV doc pm an cdv ct us its hl rT.length.symm
    refine BindsTo.of_looks fun M => ?_
    rw [e1]
    exact looks_items X lT oT (.of_pure e2)
end
abbrev SK (X : Cx) (E : Ent) (W : WX) (kws : List Keyword) (m : M (List D)) : Prop := PK X kws (rdA X.K E W m)
section
variable {X : Cx} {E : Ent} {W : WX} {pos p kpos : Pos} {k : Nat} {f : Addr} {m : Nat} {ks : List Str} {F : Fn} {x : Str} {nm : Option Str} {e : Expr} {es : List Expr} {kws : List Keyword} {me : M RV} {ma mk : M (List D)}
theorem PKi {t t' : TA} (h : PK X kws t) (k : ∀ σ H Q, t' σ H Q → t σ H Q) : PK X kws t' := ⟨fun pos p s σ H Q I q => h.run pos p s σ H Q I (k _ _ _ q)⟩
theorem sk_nil : SK X E W [] mNil := PKi pk_nil fun σ H Q ⟨st, φ, I, R, p⟩ => (p.pure R [] .nil)
theorem sk_cons (ha : SR X E W e me) (hr : SK X E W kws mk) : SK X E W (⟨nm, e, kpos⟩ :: kws) (mCons me mk) := PKi (pk_cons (se_frz ha) hr) fun σ H Q ⟨st, φ, I, R, p⟩ => by
  refine ⟨st, φ, I, R, (Po.bind p).imp fun d H1 st1 φ1 I1 S1 R1 p1 v hv => ?_⟩
  refine ⟨st1, φ1, I1, R1, (Po.bind p1).imp fun ds H2 st2 φ2 I2 S2 R2 p2 vs hvs => ?_⟩
  exact p2.pure R2 _ (.cons (hv.mono S2.pf S2.ii) hvs)
/-- f(e, .., k = v, ..): the keywords behind the places -/
def mCallK (n m : Nat) (F : Fn) (args kargs : M (List D)) : M RV := args.bind fun ds => kargs.bind fun es st => if ds.length = n ∧ es.length = m then ofF st (F (ds ++ es) st.store) else .stuck
theorem rd_callK {σ : L2.St} {H : Hp} {Q : VK} {n j : Nat} (h : rdR X.K E W (mCallK n j F ma mk) σ H Q) : rdA X.K E W ma σ H fun vs H1 => rdA X.K E W mk σ H1 fun zs H2 => vs.length = n ∧ zs.length = j ∧ spOf X.K F (vs ++ zs) H2 Q (WE W σ) := by
  obtain ⟨st, φ, I, R, p⟩ := h
  refine ⟨st, φ, I, R, (Po.bind p).imp fun ds H1 st1 φ1 I1 S1 R1 p1 vs hvs => ?_⟩
  refine ⟨st1, φ1, I1, R1, (Po.bind p1).imp fun es H2 st2 φ2 I2 S2 R2 p2 zs hzs => ?_⟩
  by_cases hd : ds.length = n ∧ es.length = j
  · rw [if_pos hd] at p2
    exact ⟨by rw [← hvs.len]; exact hd.1, by rw [← hzs.len]; exact hd.2, sp_of R2 ((hvs.mono S2.pf S2.ii).append hzs) (p2.imp fun r H3 st3 φ3 I3 S3 R3 q v hr hn => q v hr (hn.back (S1.trans S2)))⟩
  · rw [if_neg hd] at p2
    exact p2.elim
theorem sr_callK0 (hF : FnC X.prog X.w X.K X.mg X.base k f 0 ks F) (hr : Room k X.A) (hgd : X.A.guards = some []) (tk : Takes X W) (hg : Gl X x) (hm : X.mg x = some (.ref f)) (hk : PySem.W.keepIn X.K (.ref f) = true) (hkw : SK X E W kws mk)
    (hall : (backToKw pos (keywordEach kws X.env)).all (·.1.isSome) = true := by rfl) (hks : (backToKw pos (keywordEach kws X.env)).filterMap (·.1) = ks := by rfl) (hdb : (x == ("__debug__" : Str)) = false := by decide)
    (hpl : ((backTo pos (starEach [] X.env)).any (·.1) || (backToKw pos (keywordEach kws X.env)).any (·.1.isNone)) = false := by rfl) :
    SR X E W (.Call (.Name x p) [] kws pos) (mCallK 0 ks.length F mNil mk) := ⟨fun pins s σ H Q I h => by
  refine wpAny_Call_Name_kw (ld_glob I hg hm ?_ hdb)
  obtain ⟨st, φ, I0, R, q⟩ := rd_callK h
  have q := q.pure R [] .nil
  refine PySem.W.callWith_KW0 (h₀ := X.base) I.ok.mod.kin hk hall (thn (hkw.run pos pins s σ H _ I q) fun ws s2 ⟨zs, H2, I2, rz, l1, l2, q2⟩ => ⟨I2.kIn, ?_⟩) hpl
  rw [hks]
  exact run_c (us := []) (ws := ws) (vs := []) (zs := zs) hF hr hgd tk I2 .nil rz rfl (by rw [← rz.length]; exact l2) q2⟩
end
end PM
set_option Elab.async false
set_option linter.all false
set_option maxRecDepth 100000
set_option maxHeartbeats 1200000
namespace PM
open PySem PySem.Spec L2
/-! ### own exception classes, by tests of the part of the heap -/
structure BxP (B initId : String) (x : Str) : Prop where
  hv : bootBuiltins x = some (.type B)
  hd : (x == ("__debug__" : Str)) = false
  hn : x ≠ "__name__"
  ty : typeOf (.type B) = pure (.type "type")
  st : Manifest.isStub B = false
  hh : PySem.W.handedIn (.builtin initId) = true
theorem bp_ValueError : BxP "ValueError" "ValueError.__init__" "ValueError" := ⟨by kernel_rfl, by decide, by decide, by kernel_rfl, by decide +kernel, by decide +kernel⟩
def viB (K : PySem.W.Frag) (B initId : String) : Bool := match PySem.W.findCls K (.type B) (.type "type") "__init__" with
  | some (.val (.builtin n)) => decide (n = initId)
  | _ => false
theorem viB_ok {K : PySem.W.Frag} {B initId : String} (h : viB K B initId = true) : PySem.W.findCls K (.type B) (.type "type") "__init__" = some (.val (.builtin initId)) := by
  unfold viB at h
  split at h
  · rename_i n e
    rw [e, of_decide_eq_true h]
  · cases h
/-- the test of an own exception class -/
def xcB (B newId initId : String) (bm : List Value) (C : Str) (fs : List Str) (K : PySem.W.Frag) : Bool :=
  PySem.W.excInitIn K (He.ga K C) bm newId && (PySem.W.excOver K (He.ga K C) bm && (PySem.W.hasDictIn K (He.ga K C) && (decide (PySem.W.findIn K (.ref (He.ga K C)) "__setattr__" = some (some (.builtin "object.__setattr__"))) && (decide (PySem.W.subIn K (.ref (He.ga K C)) (.type "BaseException") = some true) &&
  (decide (PySem.W.typeIn K (.ref (He.ga K C)) = some (.type "type")) && (PySem.W.keepIn K (.ref (He.ga K C)) && (decide (PySem.W.findIn K (.ref (He.ga K C)) "__init__" = some (some (.ref (He.ma K (He.ga K C) "__init__")))) && (decide (PySem.W.typeIn K (.ref (He.ma K (He.ga K C) "__init__")) = some (.type "function")) &&
  (viB K B initId && fs.all fun f => decide (PySem.W.findIn K (.ref (He.ga K C)) f = some none))))))))))
structure XcT (K : PySem.W.Frag) (B newId initId : String) (bm : List Value) (C : Str) (fs : List Str) : Prop where
  T : XcF K B newId initId bm (He.ga K C)
  iC : PySem.W.findIn K (.ref (He.ga K C)) "__init__" = some (some (.ref (He.ma K (He.ga K C) "__init__")))
  tI : PySem.W.typeIn K (.ref (He.ma K (He.ga K C) "__init__")) = some (.type "function")
  vi : PySem.W.findCls K (.type B) (.type "type") "__init__" = some (.val (.builtin initId))
  no : ∀ f ∈ fs, PySem.W.findIn K (.ref (He.ga K C)) f = some none
theorem xcB_ok {B newId initId : String} {bm : List Value} {C : Str} {fs : List Str} {K : PySem.W.Frag} (b : BxF B newId initId bm) (h : xcB B newId initId bm C fs K = true) : XcT K B newId initId bm C fs := by
  unfold xcB at h
  simp only [Bool.and_eq_true, decide_eq_true_eq, List.all_eq_true] at h
  obtain ⟨h1, h2, h3, h4, h5, h6, h7, h8, h9, h10, h11⟩ := h
  exact ⟨⟨b, h1, h2, h3, h4, h5, h6, h7⟩, h8, h9, viB_ok h10, h11⟩
section
variable {P : Program} {w : World} {K : PySem.W.Frag} {mg : Str → Option Value} {base : Heap} {fI : Addr} {C name qual f g y z x tx : Str} {j : Nat} {params : Arguments} {scope : Scope} {fd : FuncData} {B newId initId : String} {bm : List Value} {p1 p2 p3 p4 p5 p6 p7 p8 p9 p10 p11 p12 p13 p14 : Pos}
theorem bxn {X : Cx} (P : BxP B initId x) (hg : Gl X x) (hm : X.mg x = none) (vi : PySem.W.findCls X.K (.type B) (.type "type") "__init__" = some (.val (.builtin initId))) : BxN X B initId x := ⟨hg, hm, P.hv, P.hd, P.hn, P.ty, P.st, vi, P.hh⟩
theorem xc1 (t : XcT K B newId initId bm C [f]) (F : FunD K name qual params [.Expr (.Call (.Attribute (.Name x p1) "__init__" p2) [.Name "self" p3, .Constant (.str tx) j p4] [] p5) p6, .Assign [.Attribute (.Name "self" p7) f p8] (.Name y p9) p10] scope [] [] (He.ma K (He.ga K C) "__init__") fd)
    (S : FnScope ["self", y] ["self", y] scope)
    (h1 : ∀ cdv A outer s H E, PE (cxOf (L2.CX P w) P w K mg base ["self", y] qual scope (He.ma K (He.ga K C) "__init__") cdv A outer s H E) (.Call (.Attribute (.Name x p1) "__init__" p2) [.Name "self" p3, .Constant (.str tx) j p4] [] p5) (tBxi (He.ga K C)))
    (h2 : ∀ cdv A outer s H E, PS (cxOf (L2.CX P w) P w K mg base ["self", y] qual scope (He.ma K (He.ga K C) "__init__") cdv A outer s H E) (.Assign [.Attribute (.Name "self" p7) f p8] (.Name y p9) p10) (tXst K (He.ga K C) 1 f))
    (hb : Binds K fd ["self", y] []) : XcP P w K mg base 1 C [f] :=
  ⟨⟨B, newId, initId, bm, _, fd, _, t.T, t.iC, t.tI, xok1 (k := 0) t.T (t.no f (by simp)) F S h1 h2, hb⟩, by simp⟩
end
/-- the classes ys against the clause's class C -/
def exmAB (ys : List Str) (C : Str) (K : PySem.W.Frag) : Bool := ys.all fun Y => decide (PySem.W.exmOne K (.ref (He.ga K Y)) (.ref (He.ga K C)) = some (decide (Y = C)))
theorem exmAB_ok {ys : List Str} {C : Str} {K : PySem.W.Frag} (h : exmAB ys C K = true) : ∀ Y ∈ ys, PySem.W.exmOne K (.ref (He.ga K Y)) (.ref (He.ga K C)) = some (decide (Y = C)) := fun Y hY => of_decide_eq_true (List.all_eq_true.mp h Y hY)
/-- tables of isinstance, by tests -/
def isiTB (tab : IsiT) (K : PySem.W.Frag) : Bool := tab.all fun r => isiCB r.1.1 K && isiRB r.1.1 r.1.2 r.2 K
def isiXB (tab : IsiT) (K : PySem.W.Frag) : Bool := tab.all fun r => excCB r.1.1 K && isiRB r.1.1 r.1.2 r.2 K
theorem lookup_mem {α β : Type} [BEq α] [LawfulBEq α] {a : α} {b : β} : ∀ {l : List (α × β)}, l.lookup a = some b → (a, b) ∈ l
  | [], e => by cases e
  | (c, d) :: l, e => by
    rw [List.lookup_cons] at e
    cases q : (a == c) with
    | true =>
      rw [q] at e
      cases e
      rw [beq_iff_eq.mp q]
      exact List.mem_cons_self ..
    | false => rw [q] at e; exact List.mem_cons_of_mem _ (lookup_mem e)
theorem isiTB_ok {tab : IsiT} {K : PySem.W.Frag} (h : isiTB tab K = true) (hc : ∀ r ∈ tab, Cls K (He.ga K r.1.1)) : IsiOk K tab := fun C t b e => by
  have m := lookup_mem e
  obtain ⟨h1, h2⟩ := Bool.and_eq_true_iff.mp (List.all_eq_true.mp h _ m)
  exact ⟨hc _ m, h1, h2⟩
theorem isiXB_ok {tab : IsiT} {K : PySem.W.Frag} (h : isiXB tab K = true) : IsiXOk K tab := fun C t b e => by
  obtain ⟨h1, h2⟩ := Bool.and_eq_true_iff.mp (List.all_eq_true.mp h _ (lookup_mem e))
  exact ⟨h1, h2⟩
def isiDAB (bs : List Str) (K : PySem.W.Frag) : Bool := bs.all fun B => isiDB B K
theorem hv_of {k : Nat} {A : Around} (r : Room k A) : A.units + 70 < cLine := by have := r.un; omega
theorem isiDAB_ok {bs : List Str} {K : PySem.W.Frag} (h : isiDAB bs K = true) : IsiDOk K bs := fun B hB => List.all_eq_true.mp h B hB
end PM
set_option Elab.async false
set_option linter.all false
set_option maxRecDepth 100000
set_option maxHeartbeats 1200000
namespace PM
open PySem PySem.Spec L2
/-! ### the head's facts, looked up in named places of the heap alone -/
end PM
set_option Elab.async false
set_option linter.all false
set_option maxRecDepth 100000
set_option maxHeartbeats 2400000
namespace PM
open PySem PySem.Spec L2 PyProof.Rows
open Classical
def refIs (v : Value) (P : Addr) : Bool := match v with
  | .ref a => a == P
  | _ => false
def codeB (f : PySem.W.Frag → Addr) (c : Addr) (K : PySem.W.Frag) : Bool := match K.lookup (f K) with
  | some ⟨_, _, .func fd, _⟩ => refIs fd.code c
  | _ => false
/-! ### tables at the head -/
def vStr (v : Value) : Bool := match v with
  | .str _ _ => true
  | _ => false
def vInt (v : Value) : Bool := match v with
  | .int _ _ => true
  | _ => false
def vBool (v : Value) : Bool := match v with
  | .bool _ => true
  | _ => false
def tabB (g : Addr → Option Obj) (p : Addr × Addr) : Bool := match g p.1 with
  | some ⟨.type c, _, .fields vs, _⟩ => decide (c = "code") && ((match vs[11]? with
      | some v => refIs v p.2
      | none => false) && (vStr (vs.getD 18 .none) && (vInt (vs.getD 7 .none) && (vBool (vs.getD 9 .none) && (vInt (vs.getD 10 .none) && (!(p.1 == p.2) && (match g p.2 with
      | some ⟨.none, none, .fields ps, sl⟩ => ps.isEmpty && sl.isEmpty
      | _ => false)))))))
  | _ => false
theorem tabB_ok {h : Heap} {p : Addr × Addr} (e : tabB h.get? p = true) : PySem.W.CodeHd h p.1 p.2 ∧ h.get? p.2 = some { cls := .none, data := .fields #[] } := by
  unfold tabB at e
  cases q : h.get? p.1 with
  | none => rw [q] at e; cases e
  | some o =>
    obtain ⟨oc, od, dt, osl⟩ := o
    rw [q] at e
    cases oc with
    | type cn =>
      cases dt with
      | fields vs =>
        obtain ⟨e1, e⟩ := He.ba e
        obtain ⟨e2, e⟩ := He.ba e
        obtain ⟨e3, e⟩ := He.ba e
        obtain ⟨e4, e⟩ := He.ba e
        obtain ⟨e5, e⟩ := He.ba e
        obtain ⟨e6, e⟩ := He.ba e
        obtain ⟨e7, e8⟩ := He.ba e
        have z1 : cn = "code" := of_decide_eq_true e1
        have z2 : vs[11]? = some (.ref p.2) := by
          cases y : vs[11]? with
          | none => rw [y] at e2; cases e2
          | some v =>
            rw [y] at e2
            cases v with
            | ref a => exact congrArg (fun z => some (Value.ref z)) (eq_of_beq e2)
            | _ => cases e2
        have z3 : vs.getD 11 .none = .ref p.2 := by
          rw [Array.getD_eq_getD_getElem?, z2]
          rfl
        have z4 : ∃ file tf, vs.getD 18 .none = .str file tf := by
          cases y : vs.getD 18 .none with
          | str a b => exact ⟨a, b, rfl⟩
          | _ => rw [y] at e3; cases e3
        have z5 : ∃ a b, vs.getD 7 .none = .int a b := by
          cases y : vs.getD 7 .none with
          | int a b => exact ⟨a, b, rfl⟩
          | _ => rw [y] at e4; cases e4
        have z6 : ∃ a, vs.getD 9 .none = .bool a := by
          cases y : vs.getD 9 .none with
          | bool a => exact ⟨a, rfl⟩
          | _ => rw [y] at e5; cases e5
        have z7 : ∃ a b, vs.getD 10 .none = .int a b := by
          cases y : vs.getD 10 .none with
          | int a b => exact ⟨a, b, rfl⟩
          | _ => rw [y] at e6; cases e6
        have z8 : p.1 ≠ p.2 := fun z => by
          rw [z, beq_self_eq_true] at e7
          cases e7
        obtain ⟨file, tf, z4⟩ := z4
        obtain ⟨flags, tg, z5⟩ := z5
        obtain ⟨inF, z6⟩ := z6
        obtain ⟨text, tt, z7⟩ := z7
        refine ⟨⟨_, vs, file, tf, flags, tg, inF, text, tt, q, by rw [z1], rfl, z2, z3, z4, z5, z6, z7, z8⟩, ?_⟩
        cases y : h.get? p.2 with
        | none => rw [y] at e8; cases e8
        | some o2 =>
          obtain ⟨oc2, od2, dt2, osl2⟩ := o2
          rw [y] at e8
          cases oc2 with
          | none =>
            cases od2 with
            | none =>
              cases dt2 with
              | fields ps =>
                obtain ⟨y1, y2⟩ := He.ba e8
                rw [Array.isEmpty_iff.mp y1, Array.isEmpty_iff.mp y2]
              | _ => cases e8
            | some b => cases dt2 <;> cases e8
          | _ => cases od2 <;> cases dt2 <;> cases e8
      | _ => cases e
    | _ => cases dt <;> cases e
/-- the tables are empty, and K tells nothing of them -/
def TabF (K : PySem.W.Frag) (h : Heap) (ts : List (Addr × Addr)) : Prop := ∀ p ∈ ts, K.lookup p.2 = none ∧ PySem.W.CodeHd h p.1 p.2 ∧ h.get? p.2 = some { cls := .none, data := .fields #[] }
abbrev AlDT : Type := He.AlD × Bool
def obsPT (as : List Addr) (ts : List (Addr × Addr)) (fa : List Fb) (fn : List DefP) (g : Addr → Option Obj) : AlDT := (obsP fa fn (He.frG g as), ts.all fun p => ((He.frG g as).lookup p.2).isNone && tabB g p)
def hookTb (as : List Addr) (ts : List (Addr × Addr)) (fa : List Fb) (fn : List DefP) : PySem.W.Hook where
  α := AlDT
  obs := fun s => obsPT as ts fa fn s.heap.get?
  val := fun _ => (valP fn, true)
  says := fun _ h => ∃ K : PySem.W.Frag, K.In h ∧ SaysP fa fn K ∧ TabF K h ts
  of := fun _ s e => ⟨_, He.frG_in, congrArg Prod.fst e, fun p hp => by
    have h1 := List.all_eq_true.mp (show (ts.all fun p => ((He.frG s.heap.get? as).lookup p.2).isNone && tabB s.heap.get? p) = true from congrArg Prod.snd e) p hp
    obtain ⟨h2, h3⟩ := He.ba h1
    exact ⟨Option.isNone_iff_eq_none.mp h2, tabB_ok h3⟩⟩
  keeps := fun _ _ _ ⟨K, hK, c, t⟩ k => ⟨K, PySem.W.Frag.In.keeps hK k, c, fun p hp => ⟨(t p hp).1, (t p hp).2.1.keeps k, k _ _ (t p hp).2.2⟩⟩
theorem obsPT_eq {as : List Addr} {ts : List (Addr × Addr)} {fa : List Fb} {fn : List DefP} {g : Addr → Option Obj} {s : Shared} (h : ∀ a, g a = s.heap.get? a) : obsPT as ts fa fn g = (hookTb as ts fa fn).obs s := by
  have e : g = s.heap.get? := funext h
  rw [e] <;> rfl
end PM
set_option Elab.async false
set_option linter.all false
set_option maxRecDepth 100000
set_option maxHeartbeats 4000000
namespace A01
open PySem PySem.Spec L2 PM
-- TABLES _law_refused_right
def tc__law_refused_right : Addr := 180
def tb__law_refused_right : Addr := 176
def tabsQ : List ((Addr × Addr) × Str) := [((tc__law_refused_right, tb__law_refused_right), "_law_refused_right.<locals>.<lambda>")]
abbrev tabsC : List (Addr × Addr) := tabsQ.map (·.1)
end A01
set_option Elab.async false
set_option linter.all false
set_option maxRecDepth 100000
set_option maxHeartbeats 4000000
namespace A01
open PySem PySem.Spec L2 PM
def flyX : List Str := ["InvalidFraction"]
def isiX : IsiT := [(("InvalidFraction", .ty "int"), false), (("InvalidFraction", .ty "tuple"), false), (("InvalidFraction", .ty "list"), false), (("InvalidFraction", .ty "bool"), false), (("InvalidFraction", .ty "ValueError"), true), (("InvalidFraction", .own "InvalidText"), false)]
def isiT : IsiT := []
def isiD : List Str := ["InvalidText"]
def top (i : Nat) : Stmt := PySem.Challenge.pw_pactroads_k01_fractions.main.body.getD i (.Pass ⟨0, 0, 0, 0⟩)
abbrev tp__law_pen : Stmt := top 12
def d__law_pen : DefP := ⟨fun K => He.ga K "_law_pen", "_law_pen", "_law_pen", defArgs tp__law_pen, defBody tp__law_pen, defScope tp__law_pen, [], []⟩
abbrev tp__law_draw : Stmt := top 13
def d__law_draw : DefP := ⟨fun K => He.ga K "_law_draw", "_law_draw", "_law_draw", defArgs tp__law_draw, defBody tp__law_draw, defScope tp__law_draw, [], []⟩
abbrev tp__law_pick : Stmt := top 14
def d__law_pick : DefP := ⟨fun K => He.ga K "_law_pick", "_law_pick", "_law_pick", defArgs tp__law_pick, defBody tp__law_pick, defScope tp__law_pick, [], []⟩
abbrev tp__law_low : Stmt := top 16
def d__law_low : DefP := ⟨fun K => He.ga K "_law_low", "_law_low", "_law_low", defArgs tp__law_low, defBody tp__law_low, defScope tp__law_low, [], []⟩
abbrev tp__law_integer : Stmt := top 18
def d__law_integer : DefP := ⟨fun K => He.ga K "_law_integer", "_law_integer", "_law_integer", defArgs tp__law_integer, defBody tp__law_integer, defScope tp__law_integer, [], []⟩
abbrev tp__law_fraction : Stmt := top 19
def d__law_fraction : DefP := ⟨fun K => He.ga K "_law_fraction", "_law_fraction", "_law_fraction", defArgs tp__law_fraction, defBody tp__law_fraction, defScope tp__law_fraction, [], []⟩
abbrev tp_divisor : Stmt := top 7
def d_divisor : DefP := ⟨fun K => He.ga K "divisor", "divisor", "divisor", defArgs tp_divisor, defBody tp_divisor, defScope tp_divisor, [], []⟩
abbrev tp_reduced : Stmt := top 8
def d_reduced : DefP := ⟨fun K => He.ga K "reduced", "reduced", "reduced", defArgs tp_reduced, defBody tp_reduced, defScope tp_reduced, [], []⟩
abbrev tp_is_integer : Stmt := top 4
def d_is_integer : DefP := ⟨fun K => He.ga K "is_integer", "is_integer", "is_integer", defArgs tp_is_integer, defBody tp_is_integer, defScope tp_is_integer, [], []⟩
abbrev tp_fraction : Stmt := top 9
def d_fraction : DefP := ⟨fun K => He.ga K "fraction", "fraction", "fraction", defArgs tp_fraction, defBody tp_fraction, defScope tp_fraction, [.int 1], []⟩
abbrev tp__law_odd : Stmt := top 20
def d__law_odd : DefP := ⟨fun K => He.ga K "_law_odd", "_law_odd", "_law_odd", defArgs tp__law_odd, defBody tp__law_odd, defScope tp__law_odd, [], []⟩
abbrev tp__law_is_integer : Stmt := top 15
def d__law_is_integer : DefP := ⟨fun K => He.ga K "_law_is_integer", "_law_is_integer", "_law_is_integer", defArgs tp__law_is_integer, defBody tp__law_is_integer, defScope tp__law_is_integer, [], []⟩
abbrev tp__law_refused : Stmt := top 22
def d__law_refused : DefP := ⟨fun K => He.ga K "_law_refused", "_law_refused", "_law_refused", defArgs tp__law_refused, defBody tp__law_refused, defScope tp__law_refused, [], []⟩
abbrev tp__law_refused_right : Stmt := top 23
def d__law_refused_right : DefP := ⟨fun K => He.ga K "_law_refused_right", "_law_refused_right", "_law_refused_right", defArgs tp__law_refused_right, defBody tp__law_refused_right, defScope tp__law_refused_right, [], []⟩
abbrev tp__law_bent : Stmt := top 21
def d__law_bent : DefP := ⟨fun K => He.ga K "_law_bent", "_law_bent", "_law_bent", defArgs tp__law_bent, defBody tp__law_bent, defScope tp__law_bent, [], []⟩
abbrev tp_is_tuple_of : Stmt := top 5
def d_is_tuple_of : DefP := ⟨fun K => He.ga K "is_tuple_of", "is_tuple_of", "is_tuple_of", defArgs tp_is_tuple_of, defBody tp_is_tuple_of, defScope tp_is_tuple_of, [], []⟩
abbrev tp_is_fraction : Stmt := top 10
def d_is_fraction : DefP := ⟨fun K => He.ga K "is_fraction", "is_fraction", "is_fraction", defArgs tp_is_fraction, defBody tp_is_fraction, defScope tp_is_fraction, [], []⟩
abbrev tp__law_is_fraction : Stmt := top 17
def d__law_is_fraction : DefP := ⟨fun K => He.ga K "_law_is_fraction", "_law_is_fraction", "_law_is_fraction", defArgs tp__law_is_fraction, defBody tp__law_is_fraction, defScope tp__law_is_fraction, [], []⟩
abbrev tp_law : Stmt := top 24
def d_law : DefP := ⟨fun K => He.ga K "law", "law", "law", defArgs tp_law, defBody tp_law, defScope tp_law, [], []⟩
abbrev tp_x_InvalidFraction : Stmt := inCls (top 1) 0
def d_x_InvalidFraction : DefP := ⟨fun K => He.ma K (He.ga K "InvalidFraction") "__init__", "__init__", "InvalidFraction.__init__", defArgs tp_x_InvalidFraction, defBody tp_x_InvalidFraction, defScope tp_x_InvalidFraction, [], []⟩
def fn : List DefP := [d__law_pen, d__law_draw, d__law_pick, d__law_low, d__law_integer, d__law_fraction, d_divisor, d_reduced, d_is_integer, d_fraction, d__law_odd, d__law_is_integer, d__law_refused, d__law_refused_right, d__law_bent, d_is_tuple_of, d_is_fraction, d__law_is_fraction, d_law, d_x_InvalidFraction]
def fa : List Fb := ([fun K => (He.Fa.glo "_law_pen").ok K, fun K => (He.Fa.glo "_law_draw").ok K, fun K => (He.Fa.glo "_law_pick").ok K, fun K => (He.Fa.glo "_law_low").ok K, fun K => (He.Fa.glo "_law_integer").ok K, fun K => (He.Fa.glo "_law_fraction").ok K, fun K => (He.Fa.glo "divisor").ok K, fun K => (He.Fa.glo "reduced").ok K, fun K => (He.Fa.glo "is_integer").ok K, fun K => (He.Fa.glo "fraction").ok K, fun K => (He.Fa.glo "_law_odd").ok K, fun K => (He.Fa.glo "_law_is_integer").ok K, fun K => (He.Fa.glo "_law_refused").ok K, fun K => (He.Fa.glo "_law_refused_right").ok K, fun K => (He.Fa.glo "_law_bent").ok K, fun K => (He.Fa.glo "is_tuple_of").ok K, fun K => (He.Fa.glo "is_fraction").ok K, fun K => (He.Fa.glo "_law_is_fraction").ok K, fun K => (He.Fa.glo "law").ok K, fun K => (He.Fa.glo "InvalidFraction").ok K, fun K => (He.Fa.glo "InvalidText").ok K, fun K => (He.Fa.free "list").ok K, fun K => (He.Fa.free "len").ok K, fun K => (He.Fa.free "abs").ok K, fun K => (He.Fa.free "int").ok K, fun K => (He.Fa.free "isinstance").ok K, fun K => (He.Fa.free "bool").ok K, fun K => (He.Fa.free "ValueError").ok K, fun K => (He.Fa.free "repr").ok K, fun K => (He.Fa.free "tuple").ok K] : List Fb) ++ ([fun K => (He.Fa.free "str").ok K, fun K => (He.Fa.free "range").ok K, fun K => (He.Fa.keep "_law_pen").ok K, fun K => (He.Fa.keep "_law_draw").ok K, fun K => (He.Fa.keep "_law_pick").ok K, fun K => (He.Fa.keep "_law_low").ok K, fun K => (He.Fa.keep "_law_integer").ok K, fun K => (He.Fa.keep "_law_fraction").ok K, fun K => (He.Fa.keep "divisor").ok K, fun K => (He.Fa.keep "reduced").ok K, fun K => (He.Fa.keep "is_integer").ok K, fun K => (He.Fa.keep "fraction").ok K, fun K => (He.Fa.keep "_law_odd").ok K, fun K => (He.Fa.keep "_law_is_integer").ok K, fun K => (He.Fa.keep "_law_refused").ok K, fun K => (He.Fa.keep "_law_refused_right").ok K, fun K => (He.Fa.keep "_law_bent").ok K, fun K => (He.Fa.keep "is_tuple_of").ok K, fun K => (He.Fa.keep "is_fraction").ok K, fun K => (He.Fa.keep "_law_is_fraction").ok K, fun K => (He.Fa.keep "law").ok K, fun K => exmAB flyX "InvalidFraction" K, fun K => isiXB isiX K, fun K => isiTB isiT K, fun K => isiDAB isiD K, fun K => xfB "InvalidFraction" "value" K, fun K => codeB (fun K => He.ga K "_law_refused_right") tc__law_refused_right K, fun K => sysB K, fun K => xcB "ValueError" "ValueError.__new__" "ValueError.__init__" [.type "ValueError", .type "Exception", .type "BaseException", .type "object"] "InvalidFraction" ["value"] K] : List Fb)
end A01
set_option Elab.async false
set_option linter.all false
set_option maxRecDepth 100000
set_option maxHeartbeats 0
namespace A01
open PySem PySem.Spec L2 PM
abbrev RH : PySem.W.OpenRow := PySem.W.OpenLaw.row PySem.Challenge.rw_pactroads_k01_fractions
-- ADDRESSES
def adH : List Addr := PySem.sysModules :: PySem.cStatics :: (([3, 6, 4, 31, 51, 61, 68, 75, 82, 90, 97, 104, 111, 118, 125, 132, 139, 146, 153, 160, 167, 174, 181, 186, 0, 30, 50, 60, 67, 74, 81, 89, 83, 96, 103, 110, 117, 124, 131, 138, 145, 152, 159, 166, 173, 180, 185, 28, 29, 32] : List Addr) ++ ([48, 49, 52, 55, 56, 57, 58, 59, 62, 63, 64, 65, 66, 69, 70, 71, 72, 73, 76, 77, 78, 79, 80, 84, 85, 86, 87, 88, 91, 92, 93, 94, 95, 98, 99, 100, 101, 102, 105, 106, 107, 108, 109, 112, 113, 114, 115, 116, 119, 120] : List Addr) ++ ([121, 122, 123, 126, 127, 128, 129, 130, 133, 134, 135, 136, 137, 140, 141, 142, 143, 144, 147, 148, 149, 150, 151, 154, 155, 156, 157, 158, 161, 162, 163, 164, 165, 168, 169, 170, 171, 172, 175, 177, 178, 179, 182, 183, 184, 27, 47] : List Addr))
abbrev hkH : PySem.W.Hook := hookTb adH tabsC fa fn
def obH (s : PySem.W.SharedT) : AlDT := obsPT adH tabsC fa fn (HandSHeadRun.getT s)
theorem obH_eq (s : PySem.W.SharedT) : obH s = hkH.obs s.abs := obsPT_eq (HandSHeadRun.getT_eq s)
def looseH : List Str := (["InvalidFraction", "InvalidText", "_law_bent", "_law_draw", "_law_fraction", "_law_integer", "_law_is_fraction", "_law_is_integer", "_law_low", "_law_odd", "_law_pen", "_law_pick", "_law_refused", "_law_refused_right", "divisor", "fraction", "is_fraction", "is_integer", "is_tuple_of", "reduced"] : List Str)
theorem runH (w : World) : HandSHeadRun.RunEq RH (PySem.W.view RH.prog [24]) hkH obH 4000 looseH w := by
  intro os
  kernel_rfl
end A01
set_option Elab.async false
set_option linter.all false
set_option maxRecDepth 100000
set_option maxHeartbeats 1200000
namespace PM
open PySem PySem.Spec L2
/-! ### a, b, c = x, y, z -/
def mPar3 (i j l : Nat) (a b c : M RV) : MS := a.fix.then fun r => b.fix.then fun s => c.fix.then fun t st => if isLo s || isLo t then .stuck else .nx { st with env := ((st.env.set i r.slot).set j s.slot).set l t.slot }
end PM
set_option Elab.async false
set_option linter.all false
set_option maxRecDepth 100000
set_option maxHeartbeats 1200000
namespace PM
open PySem PySem.Spec L2
/-! ### how long a value's repr is -/
def shw (d : D) : Str := match d.pyd with
  | some p => p.shown
  | none => Str.empty
def Shw (k n : Nat) (d : D) : Prop := ∃ p, d.pyd = some p ∧ p.showable = true ∧ p.depth ≤ k ∧ p.shown.length ≤ n
def Shws (k n : Nat) (ds : List D) : Prop := ∃ ps, D.pyds ds = some ps ∧ PyData.showableAll ps = true ∧ PyData.depthAll ps ≤ k ∧ piled (PyData.shownAll ps) ≤ n
theorem Shw.mono {k n l m : Nat} {d : D} (h : Shw k n d) (h1 : k ≤ l) (h2 : n ≤ m) : Shw l m d := by
  obtain ⟨p, e1, e2, e3, e4⟩ := h
  exact ⟨p, e1, e2, by omega, by omega⟩
theorem shw_non : Shw 0 4 .non := ⟨.none, rfl, by simp only [PyData.showable], by simp only [PyData.depth]; omega, by simp only [PyData.shown]; decide⟩
theorem shw_bl (b : Bool) : Shw 0 5 (.bl b) := ⟨.bool b, rfl, by simp only [PyData.showable], by simp only [PyData.depth]; omega, by simp only [PyData.shown]; cases b <;> decide⟩
theorem shw_int {i : Int} (h : i.natAbs.log2 < 1920) : Shw 0 1921 (.int i) := ⟨.int i, rfl, by simpa only [PyData.showable, decide_eq_true_eq] using h, by simp only [PyData.depth]; omega, by
  simp only [PyData.shown]
  have e : (((toString i : String)) : Str) = Str.ofString (toString i) := rfl
  rw [e]
  exact PyProof.Rows.int_text_len_1921 h⟩
theorem shw_str {x : Str} (h : ∀ c ∈ x.cps.toList, c < 16 ^ 8) : Shw 0 (10 * x.length + 2) (.str x) := ⟨.str x, rfl, by simp only [PyData.showable], by simp only [PyData.depth]; omega, by simp only [PyData.shown]; exact StrLaws.reprText_len x h⟩
theorem shws_nil (k : Nat) : Shws k 0 [] := ⟨[], rfl, by simp only [PyData.showableAll], by simp only [PyData.depthAll]; omega, by simp only [PyData.shownAll]; decide⟩
theorem shws_cons {k n m : Nat} {d : D} {ds : List D} (h1 : Shw k n d) (h2 : Shws k m ds) : Shws k (n + 2 + m) (d :: ds) := by
  obtain ⟨p, e1, e2, e3, e4⟩ := h1
  obtain ⟨ps, f1, f2, f3, f4⟩ := h2
  refine ⟨p :: ps, by simp only [D.pyds, e1, f1]; rfl, by simp only [PyData.showableAll, e2, f2]; rfl, by simp only [PyData.depthAll]; omega, ?_⟩
  simp only [PyData.shownAll, piled_cons]
  omega
theorem textFrom_le : ∀ (ts : List Str) (k : Nat) (acc : Str), (textFrom k acc ts).length ≤ acc.length + piled ts
  | [], _, acc => by show acc.length ≤ _; omega
  | t :: ts, k, acc => by
    have ih := textFrom_le ts (k + 1) (acc ++ (if k > 0 then ", " else "" : String) ++ t)
    have e : (acc ++ (if k > 0 then ", " else "" : String) ++ t).length = acc.length + (if k > 0 then 2 else 0) + t.length := by
      rw [strLen_append, strLen_append]
      split <;> rfl
    rw [e] at ih
    rw [piled_cons]
    show (textFrom (k + 1) _ ts).length ≤ _
    have : (if k > 0 then 2 else 0) ≤ 2 := by split <;> omega
    omega
theorem shw_lst {k n : Nat} {ds : List D} (h : Shws k n ds) : Shw (k + 1) (n + 2) (.lst ds) := by
  obtain ⟨ps, f1, f2, f3, f4⟩ := h
  refine ⟨.list ps, by simp only [D.pyd, f1]; rfl, by simpa only [PyData.showable] using f2, by simp only [PyData.depth]; omega, ?_⟩
  simp only [PyData.shown]
  unfold listText
  rw [strLen_append]
  have := textFrom_le (PyData.shownAll ps) 0 "["
  have e1 : ((("[" : String) : Str)).length = 1 := rfl
  have e2 : ((("]" : String) : Str)).length = 1 := rfl
  omega
theorem shw_tup {k n : Nat} {ds : List D} (h : Shws k n ds) : Shw (k + 1) (n + 3) (.tup ds) := by
  obtain ⟨ps, f1, f2, f3, f4⟩ := h
  refine ⟨.tuple ps, by simp only [D.pyd, f1]; rfl, by simpa only [PyData.showable] using f2, by simp only [PyData.depth]; omega, ?_⟩
  simp only [PyData.shown]
  unfold tupleText
  rw [strLen_append, strLen_append]
  have e1 : ((("(" : String) : Str)).length = 1 := rfl
  have e3 : (((if (PyData.shownAll ps).length == 1 then ",)" else ")" : String) : Str)).length ≤ 2 := by split <;> decide
  by_cases h : PyData.shownAll ps = []
  · rw [h]
    rw [h] at e3
    have e2 : (Str.join ", " []).length = 0 := rfl
    omega
  · have := join_length_add _ h
    omega
theorem opRepr_e {k n : Nat} {d : D} (h : Shw k n d) (hk : k ≤ 64) (hn : n ≤ lim) : opRepr d = some (.sh (.str (shw d))) := by
  obtain ⟨p, e1, e2, e3, e4⟩ := h
  have c : (p.showable && (decide (p.depth ≤ 64) && decide (p.shown.length ≤ lim))) = true := by
    rw [e2, decide_eq_true (by omega : p.depth ≤ 64), decide_eq_true (by omega : p.shown.length ≤ lim)]
    rfl
  unfold opRepr shw
  rw [e1]
  show (if _ then _ else _) = _
  rw [if_pos c]
@[simp] theorem eq_str' {a b : Str} : opEq (.str a) (.str b) = some (a == b) := rfl
@[simp] theorem ne_str' {a b : Str} : opNe (.str a) (.str b) = some (!(a == b)) := rfl
end PM
set_option Elab.async false
set_option linter.all false
set_option maxRecDepth 100000
set_option maxHeartbeats 1200000
namespace PM
open PySem PySem.Spec L2
/-! ### how runs are reckoned: each step's rest stands under a name, so that it is not looked into before its turn -/
section
variable {α β : Type}
def Out.bd (o : Out α) (f : α → State → Out β) : Out β := match o with
  | .ok a st => f a st
  | .exc c st => .exc c st
  | .stuck => .stuck
@[simp] theorem bd_ok {a : α} {st : State} {f : α → State → Out β} : (Out.ok a st).bd f = f a st := rfl
@[simp] theorem bd_exc {c : Exc} {st : State} {f : α → State → Out β} : (Out.exc c st : Out α).bd f = .exc c st := rfl
@[simp] theorem bd_stuck {f : α → State → Out β} : (Out.stuck : Out α).bd f = .stuck := rfl
def Out.th (o : Out α) (f : α → State → SOut) : SOut := match o with
  | .ok a st => f a st
  | .exc c st => .exc c st
  | .stuck => .stuck
@[simp] theorem th_ok {a : α} {st : State} {f : α → State → SOut} : (Out.ok a st).th f = f a st := rfl
@[simp] theorem th_exc {c : Exc} {st : State} {f : α → State → SOut} : (Out.exc c st : Out α).th f = .exc c st := rfl
@[simp] theorem th_stuck {f : α → State → SOut} : (Out.stuck : Out α).th f = .stuck := rfl
theorem bd_bd {γ : Type} {o : Out α} {f : α → State → Out β} {g : β → State → Out γ} : (o.bd f).bd g = o.bd fun a st => (f a st).bd g := by cases o <;> rfl
theorem bd_th {o : Out α} {f : α → State → Out β} {g : β → State → SOut} : (o.bd f).th g = o.th fun a st => (f a st).th g := by cases o <;> rfl
def SOut.sq (o : SOut) (b : MS) : SOut := match o with
  | .nx st' => b st'
  | o => o
@[simp] theorem sq_nx {st : State} {b : MS} : (SOut.nx st).sq b = b st := rfl
@[simp] theorem sq_rt {r : RV} {st : State} {b : MS} : (SOut.rt r st).sq b = .rt r st := rfl
@[simp] theorem sq_exc {r : Exc} {st : State} {b : MS} : (SOut.exc r st).sq b = .exc r st := rfl
@[simp] theorem sq_bk {st : State} {b : MS} : (SOut.bk st).sq b = .bk st := rfl
@[simp] theorem sq_ct {st : State} {b : MS} : (SOut.ct st).sq b = .ct st := rfl
@[simp] theorem sq_stuck {b : MS} : SOut.stuck.sq b = .stuck := rfl
def SOut.lp (o : SOut) (k : MS) : SOut := match o with
  | .nx st' => k st'
  | .ct st' => k st'
  | .bk st' => .nx st'
  | o => o
@[simp] theorem lp_nx {st : State} {k : MS} : (SOut.nx st).lp k = k st := rfl
@[simp] theorem lp_ct {st : State} {k : MS} : (SOut.ct st).lp k = k st := rfl
@[simp] theorem lp_bk {st : State} {k : MS} : (SOut.bk st).lp k = .nx st := rfl
@[simp] theorem lp_rt {st : State} {k : MS} {r : RV} : (SOut.rt r st).lp k = .rt r st := rfl
@[simp] theorem lp_exc {st : State} {k : MS} {r : Exc} : (SOut.exc r st).lp k = .exc r st := rfl
@[simp] theorem lp_stuck {k : MS} : SOut.stuck.lp k = .stuck := rfl
def Out.opt (o : Option α) (st : State) : Out α := match o with
  | some a => .ok a st
  | none => .stuck
variable {st : State} {m a b c : M RV} {ml mr : M (List D)} {t u : M Bool} {x y : MS}
@[simp] theorem opt_some {a : α} : Out.opt (some a) st = .ok a st := rfl
@[simp] theorem opt_none : Out.opt (none : Option α) st = .stuck := rfl
/-- of one value, of two -/
def on1 (g : D → Option α) : Option D → Option α
  | some x => g x
  | none => none
def on2 (g : D → D → Option α) : Option D → Option D → Option α
  | some x, some y => g x y
  | _, _ => none
@[simp] theorem on1_e {g : D → Option α} {x : D} : on1 g (some x) = g x := rfl
@[simp] theorem on2_e {g : D → D → Option α} {x y : D} : on2 g (some x) (some y) = g x y := rfl
@[simp] theorem r_ofO {o : Option α} : M.ofO o st = Out.opt o st := by cases o <;> rfl
@[simp] theorem r_at2 {g : D → D → Option α} {r s : RV} : at2 g r s st = Out.opt (on2 g (view st r) (view st s)) st := by
  simp only [at2]
  cases view st r <;> cases view st s <;> simp [on2]
@[simp] theorem r_at1 {g : D → Option α} {r : RV} : at1 g r st = Out.opt (on1 g (view st r)) st := by
  simp only [at1]
  cases view st r <;> simp [on1]
/-! what is simple -/
@[simp] theorem r_pure {a : α} : M.pure a st = .ok a st := rfl
@[simp] theorem r_mstuck : (M.stuck : M α) st = .stuck := rfl
@[simp] theorem r_mL {d : D} : mL d st = .ok (.sh d) st := rfl
@[simp] theorem r_nx : mNx st = .nx st := rfl
@[simp] theorem r_brk : mBrk st = .bk st := rfl
@[simp] theorem r_cnt : mCnt st = .ct st := rfl
@[simp] theorem r_stk : mStk st = .stuck := rfl
@[simp] theorem r_seq : mSeq x y st = (x st).sq y := rfl
@[simp] theorem r_nil : mNil st = .ok [] st := rfl
@[simp] theorem r_yes : mYes st = .ok true st := rfl
@[simp] theorem r_no : mNo st = .ok none st := rfl
@[simp] theorem bor_sh {d : D} : (RV.sh d).bor = .sh d := rfl
@[simp] theorem bor_lo {i : Nat} : (RV.lo i).bor = .lo i := rfl
@[simp] theorem bor_ow {c : Cell} : (RV.ow c).bor = .sh c.frz := rfl
@[simp] theorem frz_sh {d : D} : RV.frz (.sh d) st = .ok d st := rfl
@[simp] theorem frz_ow {c : Cell} : RV.frz (.ow c) st = .ok c.frz st := rfl
@[simp] theorem frz_lo {i : Nat} : RV.frz (.lo i) st = mVar i st := rfl
@[simp] theorem cfrz_ls {ds : List D} : (Cell.ls ds).frz = .lst ds := rfl
@[simp] theorem cfrz_dc {ds : List (Key × D)} : (Cell.dc ds).frz = .dct ds := rfl
@[simp] theorem slot_sh {d : D} : (RV.sh d).slot = .sh d := rfl
@[simp] theorem slot_ow {c : Cell} : (RV.ow c).slot = .ow c := rfl
@[simp] theorem isLo_sh {d : D} : isLo (.sh d) = false := rfl
@[simp] theorem isLo_ow {d : Cell} : isLo (.ow d) = false := rfl
def RV.fix : RV → State → Out RV
  | .lo i, st => (mVar i st).bd fun d st => .ok (.sh d) st
  | r, st => .ok r st
@[simp] theorem fix_sh {d : D} : RV.fix (.sh d) st = .ok (.sh d) st := rfl
@[simp] theorem fix_ow {c : Cell} : RV.fix (.ow c) st = .ok (.ow c) st := rfl
@[simp] theorem fix_lo {i : Nat} : RV.fix (.lo i) st = (mVar i st).bd fun d st => .ok (.sh d) st := rfl
theorem r_bind {m : M α} {f : α → M β} : M.bind m f st = (m st).bd f := rfl
theorem r_then {m : M α} {f : α → MS} : M.then m f st = (m st).th f := rfl
theorem r_frz : M.frz m st = (m st).bd RV.frz := rfl
theorem r_fix : M.fix m st = (m st).bd RV.fix := by
  show M.bind m _ st = _
  rw [r_bind]
  congr 1
  funext r
  cases r <;> rfl
/-! operations -/
def kOp2 (g : D → D → Option α) (r s : RV) (st : State) : Out α := Out.opt (on2 g (view st r.bor) (view st s.bor)) st
def kOp (g : D → D → Option α) (b : M RV) (r : RV) (st : State) : Out α := (b st).bd (kOp2 g r)
@[simp] theorem kOp2_e {g : D → D → Option α} {r s : RV} : kOp2 g r s st = Out.opt (on2 g (view st r.bor) (view st s.bor)) st := rfl
@[simp] theorem kOp_e {g : D → D → Option α} {r : RV} : kOp g b r st = (b st).bd (kOp2 g r) := rfl
@[simp] theorem r_op {g : D → D → Option RV} : mOp g a b st = (a st).bd (kOp g b) := by
  unfold kOp kOp2
  cases h1 : a st with
  | ok r st1 => cases h2 : b st1 <;> simp [mOp, M.bor, M.bind, M.pure, h1, h2, Out.bd]
  | exc c st1 => simp [mOp, M.bor, M.bind, M.pure, h1, Out.bd]
  | stuck => simp [mOp, M.bor, M.bind, M.pure, h1, Out.bd]
@[simp] theorem r_cmp {g : D → D → Option Bool} : mCmp g a b st = (a st).bd (kOp g b) := by
  unfold kOp kOp2
  cases h1 : a st with
  | ok r st1 => cases h2 : b st1 <;> simp [mCmp, M.bor, M.bind, M.pure, h1, h2, Out.bd]
  | exc c st1 => simp [mCmp, M.bor, M.bind, M.pure, h1, Out.bd]
  | stuck => simp [mCmp, M.bor, M.bind, M.pure, h1, Out.bd]
def kUn (g : D → Option α) (r : RV) (st : State) : Out α := Out.opt (on1 g (view st r.bor)) st
@[simp] theorem kUn_e {g : D → Option α} {r : RV} : kUn g r st = Out.opt (on1 g (view st r.bor)) st := rfl
@[simp] theorem r_un {g : D → Option RV} : mUn g a st = (a st).bd (kUn g) := by
  unfold kUn
  cases h1 : a st <;> simp [mUn, M.bor, M.bind, M.pure, h1, Out.bd]
@[simp] theorem r_Fm : mFm a st = (a st).bd (kUn opFmt) := by
  unfold kUn
  cases h1 : a st <;> simp [mFm, M.bor, M.bind, M.pure, h1, Out.bd]
/-! tests -/
def kBl (b : Bool) (st : State) : Out RV := .ok (.sh (.bl b)) st
@[simp] theorem kBl_e {b : Bool} : kBl b st = .ok (.sh (.bl b)) st := rfl
@[simp] theorem r_bl : mBl t st = (t st).bd kBl := rfl
def kAnd (u : M Bool) (c : Bool) (st : State) : Out Bool := if c then u st else .ok false st
@[simp] theorem kAnd_t : kAnd u true st = u st := rfl
@[simp] theorem kAnd_f : kAnd u false st = .ok false st := rfl
def kOr (u : M Bool) (c : Bool) (st : State) : Out Bool := if c then .ok true st else u st
@[simp] theorem kOr_t : kOr u true st = .ok true st := rfl
@[simp] theorem kOr_f : kOr u false st = u st := rfl
def kNot (c : Bool) (st : State) : Out Bool := .ok (!c) st
@[simp] theorem kNot_e {c : Bool} : kNot c st = .ok (!c) st := rfl
def kIf (a b : M α) (c : Bool) (st : State) : Out α := if c then a st else b st
@[simp] theorem kIf_t {a b : M α} : kIf a b true st = a st := rfl
@[simp] theorem kIf_f {a b : M α} : kIf a b false st = b st := rfl
def kIfS (a b : MS) (c : Bool) (st : State) : SOut := if c then a st else b st
@[simp] theorem kIfS_t {a b : MS} : kIfS a b true st = a st := rfl
@[simp] theorem kIfS_f {a b : MS} : kIfS a b false st = b st := rfl
@[simp] theorem r_and : mAnd t u st = (t st).bd (kAnd u) := by
  show M.bind t _ st = _
  rw [r_bind]; congr 1; funext c st; cases c <;> rfl
@[simp] theorem r_or : mOr t u st = (t st).bd (kOr u) := by
  show M.bind t _ st = _
  rw [r_bind]; congr 1; funext c st; cases c <;> rfl
@[simp] theorem r_not : mNot t st = (t st).bd kNot := rfl
@[simp] theorem r_if {a b : M α} : mIf t a b st = (t st).bd (kIf a b) := by
  show M.bind t _ st = _
  rw [r_bind]; congr 1; funext c st; cases c <;> rfl
@[simp] theorem r_ifs : mIfS t x y st = (t st).th (kIfS x y) := by
  show M.then t _ st = _
  rw [r_then]; congr 1; funext c st; cases c <;> rfl
def toB : RV → State → Out Bool
  | .sh (.bl b), st => .ok b st
  | _, _ => .stuck
@[simp] theorem toB_bl {b : Bool} : toB (.sh (.bl b)) st = .ok b st := rfl
@[simp] theorem r_B : mB m st = (m st).bd toB := by
  show M.bind m _ st = _
  rw [r_bind]; congr 1; funext r st
  cases r with
  | sh d => cases d <;> rfl
  | ow c => rfl
  | lo i => rfl
/-! arguments, displays -/
def kC3 (x : D) (xs : List D) (st : State) : Out (List D) := .ok (x :: xs) st
def kC2 (ml : M (List D)) (x : D) (st : State) : Out (List D) := (ml st).bd (kC3 x)
def kC1 (ml : M (List D)) (r : RV) (st : State) : Out (List D) := (RV.frz r st).bd (kC2 ml)
@[simp] theorem kC3_e {x : D} {xs : List D} : kC3 x xs st = .ok (x :: xs) st := rfl
@[simp] theorem kC2_e {x : D} : kC2 ml x st = (ml st).bd (kC3 x) := rfl
@[simp] theorem kC1_e {r : RV} : kC1 ml r st = (RV.frz r st).bd (kC2 ml) := rfl
@[simp] theorem r_cons : mCons a ml st = (a st).bd (kC1 ml) := by
  show ((a st).bd RV.frz).bd (kC2 ml) = (a st).bd (kC1 ml)
  cases a st <;> rfl
def kTup (xs : List D) (st : State) : Out RV := if xs.length ≤ lim then .ok (.sh (.tup xs)) st else .stuck
def kLst (xs : List D) (st : State) : Out RV := if xs.length ≤ lim then .ok (.ow (.ls xs)) st else .stuck
theorem kTup_e {xs : List D} (h : xs.length ≤ lim) : kTup xs st = .ok (.sh (.tup xs)) st := if_pos h
theorem kLst_e {xs : List D} (h : xs.length ≤ lim) : kLst xs st = .ok (.ow (.ls xs)) st := if_pos h
@[simp] theorem kTup_0 : kTup [] st = .ok (.sh (.tup [])) st := rfl
@[simp] theorem kTup_1 {a : D} : kTup [a] st = .ok (.sh (.tup [a])) st := kTup_e (by simp [lim])
@[simp] theorem kTup_2 {a b : D} : kTup [a, b] st = .ok (.sh (.tup [a, b])) st := kTup_e (by simp [lim])
@[simp] theorem kTup_3 {a b c : D} : kTup [a, b, c] st = .ok (.sh (.tup [a, b, c])) st := kTup_e (by simp [lim])
@[simp] theorem kTup_4 {a b c d : D} : kTup [a, b, c, d] st = .ok (.sh (.tup [a, b, c, d])) st := kTup_e (by simp [lim])
@[simp] theorem kLst_0 : kLst [] st = .ok (.ow (.ls [])) st := rfl
@[simp] theorem kLst_1 {a : D} : kLst [a] st = .ok (.ow (.ls [a])) st := kLst_e (by simp [lim])
@[simp] theorem kLst_2 {a b : D} : kLst [a, b] st = .ok (.ow (.ls [a, b])) st := kLst_e (by simp [lim])
@[simp] theorem kLst_3 {a b c : D} : kLst [a, b, c] st = .ok (.ow (.ls [a, b, c])) st := kLst_e (by simp [lim])
@[simp] theorem kLst_4 {a b c d : D} : kLst [a, b, c, d] st = .ok (.ow (.ls [a, b, c, d])) st := kLst_e (by simp [lim])
@[simp] theorem r_tup : mTup ml st = (ml st).bd kTup := by
  show M.bind ml _ st = _
  rw [r_bind]; congr 1; funext xs st
  show M.small _ _ st = _
  unfold M.small kTup
  by_cases h : xs.length ≤ lim
  · rw [if_pos h, if_pos h]; rfl
  · rw [if_neg h, if_neg h]; rfl
@[simp] theorem r_lst : mLst ml st = (ml st).bd kLst := by
  show M.bind ml _ st = _
  rw [r_bind]; congr 1; funext xs st
  show M.small _ _ st = _
  unfold M.small kLst
  by_cases h : xs.length ≤ lim
  · rw [if_pos h, if_pos h]; rfl
  · rw [if_neg h, if_neg h]; rfl
/-! statements -/
def kSet2 (i : Nat) (r : RV) (st : State) : SOut := .nx { st with env := st.env.set i r.slot }
def kSet (i : Nat) (r : RV) (st : State) : SOut := (RV.fix r st).th (kSet2 i)
@[simp] theorem kSet2_e {i : Nat} {r : RV} : kSet2 i r st = .nx { st with env := st.env.set i r.slot } := rfl
@[simp] theorem kSet_e {i : Nat} {r : RV} : kSet i r st = (RV.fix r st).th (kSet2 i) := rfl
@[simp] theorem r_set {i : Nat} : mSet i m st = (m st).th (kSet i) := by
  show (M.fix m st).th (kSet2 i) = _
  rw [r_fix, bd_th]; rfl
def kRet2 (r : RV) (st : State) : SOut := .rt r st
def kRet (r : RV) (st : State) : SOut := (RV.fix r st).th kRet2
@[simp] theorem kRet2_e {r : RV} : kRet2 r st = .rt r st := rfl
@[simp] theorem kRet_e {r : RV} : kRet r st = (RV.fix r st).th kRet2 := rfl
@[simp] theorem r_ret : mRet m st = (m st).th kRet := by
  show (M.fix m st).th kRet2 = _
  rw [r_fix, bd_th]; rfl
def kDrop (r : RV) (st : State) : SOut := .nx st
@[simp] theorem kDrop_e {r : RV} : kDrop r st = .nx st := rfl
@[simp] theorem r_drop : mDrop m st = (m st).th kDrop := rfl
def kP4 (i j : Nat) (r s : RV) (st : State) : SOut := if isLo s then .stuck else .nx { st with env := (st.env.set i r.slot).set j s.slot }
def kP3 (i j : Nat) (r s : RV) (st : State) : SOut := (RV.fix s st).th (kP4 i j r)
def kP2 (i j : Nat) (b : M RV) (r : RV) (st : State) : SOut := (b st).th (kP3 i j r)
def kP1 (i j : Nat) (b : M RV) (r : RV) (st : State) : SOut := (RV.fix r st).th (kP2 i j b)
@[simp] theorem kP4_e {i j : Nat} {r s : RV} : kP4 i j r s st = if isLo s then .stuck else .nx { st with env := (st.env.set i r.slot).set j s.slot } := rfl
@[simp] theorem kP3_e {i j : Nat} {r s : RV} : kP3 i j r s st = (RV.fix s st).th (kP4 i j r) := rfl
@[simp] theorem kP2_e {i j : Nat} {r : RV} : kP2 i j b r st = (b st).th (kP3 i j r) := rfl
@[simp] theorem kP1_e {i j : Nat} {r : RV} : kP1 i j b r st = (RV.fix r st).th (kP2 i j b) := rfl
@[simp] theorem r_par {i j : Nat} : mPar i j a b st = (a st).th (kP1 i j b) := by
  show (M.fix a st).th (fun r st => (M.fix b st).th (fun s st => if isLo s then SOut.stuck else .nx { st with env := (st.env.set i r.slot).set j s.slot })) = _
  rw [r_fix, bd_th]
  congr 1
  funext r st
  show _ = (RV.fix r st).th (kP2 i j b)
  congr 1
  funext r st
  rw [r_fix, bd_th]
  rfl
def kG2 (o : Option State) : SOut := match o with
  | some st' => .nx st'
  | none => .stuck
@[simp] theorem kG2_s {st : State} : kG2 (some st) = .nx st := rfl
@[simp] theorem kG2_n : kG2 none = .stuck := rfl
def kG1 (g : D → State → Option State) (d : D) (st : State) : SOut := kG2 (g d st)
def kG (g : D → State → Option State) (r : RV) (st : State) : SOut := (RV.frz r st).th (kG1 g)
@[simp] theorem kG1_e {g : D → State → Option State} {d : D} : kG1 g d st = kG2 (g d st) := rfl
@[simp] theorem kG_e {g : D → State → Option State} {r : RV} : kG g r st = (RV.frz r st).th (kG1 g) := rfl
@[simp] theorem r_asg {g : D → State → Option State} : mAsg g m st = (m st).th (kG g) := by
  show ((m st).bd RV.frz).th (kG1 g) = (m st).th (kG g)
  cases m st <;> rfl
@[simp] theorem r_gN {i : Nat} {d : D} : gN i d st = some { st with env := st.env.set i (.sh d) } := rfl
@[simp] theorem r_gnil : gsNil [] st = some st := rfl
@[simp] theorem r_gcons {g : D → State → Option State} {r : List D → State → Option State} {d : D} {ds : List D} : gsCons g r (d :: ds) st = (g d st).bind (r ds) := rfl
@[simp] theorem r_gT {n : Nat} {r : List D → State → Option State} {ds : List D} : gT n r (.tup ds) st = if ds.length = n then r ds st else none := rfl
/-! loops -/
@[simp] theorem r_while {f : State → Nat} : mWhile f t x st = mWhileN (f st) t x st := rfl
def kW (n : Nat) (t : M Bool) (x : MS) (k : Bool) (st : State) : SOut := if k then (x st).lp (mWhileN n t x) else .nx st
@[simp] theorem kW_t {n : Nat} : kW n t x true st = (x st).lp (mWhileN n t x) := rfl
@[simp] theorem kW_f {n : Nat} : kW n t x false st = .nx st := rfl
theorem r_whiles {n : Nat} : mWhileN (n + 1) t x st = (t st).th (kW n t x) := by
  show M.then t _ st = _
  rw [r_then]; congr 1; funext c st; cases c with
  | false => rfl
  | true =>
    show _ = (x st).lp (mWhileN n t x)
    cases h : x st <;> simp [h, SOut.lp]
def kF (g : D → State → Option State) (x : MS) (ds : List D) (st : State) : SOut := mForL g x ds st
@[simp] theorem kF_e {g : D → State → Option State} {ds : List D} : kF g x ds st = mForL g x ds st := rfl
@[simp] theorem r_for {it : M (List D)} {g : D → State → Option State} : mFor it g x st = (it st).th (kF g x) := rfl
def kFb (x k : MS) (o : Option State) : SOut := match o with
  | some st1 => (x st1).lp k
  | none => .stuck
@[simp] theorem kFb_s {k : MS} : kFb x k (some st) = (x st).lp k := rfl
@[simp] theorem kFb_n {k : MS} : kFb x k none = .stuck := rfl
theorem r_fors {g : D → State → Option State} {d : D} {ds : List D} : mForL g x (d :: ds) st = kFb x (mForL g x ds) (g d st) := by
  simp only [mForL]
  cases g d st with
  | none => rfl
  | some st1 => simp only; cases h : x st1 <;> simp [kFb, h]
/-! methods -/
def kM3 (g : D → D → Option RV) (r s : RV) (st : State) : Out RV := Out.opt (on2 g (view st r.bor) (view st s.bor)) st
def kM2 (g : D → D → Option RV) (b : M RV) (r : RV) (_ : Unit) (st : State) : Out RV := (b st).bd (kM3 g r)
def kM (q : D → Option Unit) (g : D → D → Option RV) (b : M RV) (r : RV) (st : State) : Out RV := (Out.opt (on1 q (view st r.bor)) st).bd (kM2 g b r)
@[simp] theorem kM3_e {g : D → D → Option RV} {r s : RV} : kM3 g r s st = Out.opt (on2 g (view st r.bor) (view st s.bor)) st := rfl
@[simp] theorem kM2_e {g : D → D → Option RV} {r : RV} {u : Unit} : kM2 g b r u st = (b st).bd (kM3 g r) := rfl
@[simp] theorem kM_e {q : D → Option Unit} {g : D → D → Option RV} {r : RV} : kM q g b r st = (Out.opt (on1 q (view st r.bor)) st).bd (kM2 g b r) := rfl
@[simp] theorem isSt_e {z : Str} : isSt (.str z) = some () := rfl
@[simp] theorem isLst_e {z : List D} : isLst (.lst z) = some () := rfl
@[simp] theorem r_mS1 {g : D → D → Option RV} : mS1 g a b st = (a st).bd (kM isSt g b) := by
  have e : ∀ r st, (M.bind (at1 isSt (RV.bor r)) fun _ => M.bind (M.bor b) fun s => at2 g (RV.bor r) s) st = kM isSt g b r st := fun r st => by
    show (at1 isSt r.bor st).bd (fun _ st => ((b st).bd fun s st => .ok s.bor st).bd fun s st => at2 g r.bor s st) = (Out.opt (on1 isSt (view st r.bor)) st).bd (kM2 g b r)
    rw [r_at1]
    congr 1; funext u st
    show _ = (b st).bd (kM3 g r)
    rw [bd_bd]
    congr 1; funext s st
    exact r_at2
  show ((a st).bd fun r st => .ok r.bor st).bd (fun r => M.bind (at1 isSt r) fun _ => M.bind (M.bor b) fun s => at2 g r s) = _
  cases a st with
  | ok r st => exact e r st
  | exc c st => rfl
  | stuck => rfl
@[simp] theorem r_mL1 {g : D → D → Option RV} : mL1 g a b st = (a st).bd (kM isLst g b) := by
  have e : ∀ r st, (M.bind (at1 isLst (RV.bor r)) fun _ => M.bind (M.bor b) fun s => at2 g (RV.bor r) s) st = kM isLst g b r st := fun r st => by
    show (at1 isLst r.bor st).bd (fun _ st => ((b st).bd fun s st => .ok s.bor st).bd fun s st => at2 g r.bor s st) = (Out.opt (on1 isLst (view st r.bor)) st).bd (kM2 g b r)
    rw [r_at1]
    congr 1; funext u st
    show _ = (b st).bd (kM3 g r)
    rw [bd_bd]
    congr 1; funext s st
    exact r_at2
  show ((a st).bd fun r st => .ok r.bor st).bd (fun r => M.bind (at1 isLst r) fun _ => M.bind (M.bor b) fun s => at2 g r s) = _
  cases a st with
  | ok r st => exact e r st
  | exc c st => rfl
  | stuck => rfl
def kIt2 (d : D) (st : State) : Out (List D) := Out.opt (asIt d) st
@[simp] theorem asIt_t {ds : List D} : asIt (.tup ds) = some ds := rfl
@[simp] theorem asIt_l {ds : List D} : asIt (.lst ds) = some ds := rfl
@[simp] theorem asIt_d {kvs : List (Key × D)} : asIt (.dct kvs) = some (kvs.map fun kv => keyD kv.1) := rfl
def kIt (r : RV) (st : State) : Out (List D) := (RV.frz r st).bd kIt2
@[simp] theorem kIt2_e {d : D} : kIt2 d st = Out.opt (asIt d) st := rfl
@[simp] theorem kIt_e {r : RV} : kIt r st = (RV.frz r st).bd kIt2 := rfl
@[simp] theorem r_it : mIt a st = (a st).bd kIt := by
  have e : (fun d => M.ofO (asIt d)) = kIt2 := by funext d st; exact r_ofO
  show ((a st).bd RV.frz).bd (fun d => M.ofO (asIt d)) = _
  rw [e]
  cases a st <;> rfl
/-! calls -/
def kCall (n : Nat) (F : Fn) (ds : List D) (st : State) : Out RV := if ds.length = n then ofF st (F ds st.store) else .stuck
@[simp] theorem kCall_0 {F : Fn} : kCall 0 F [] st = ofF st (F [] st.store) := rfl
@[simp] theorem kCall_1 {F : Fn} {a : D} : kCall 1 F [a] st = ofF st (F [a] st.store) := rfl
@[simp] theorem kCall_2 {F : Fn} {a b : D} : kCall 2 F [a, b] st = ofF st (F [a, b] st.store) := rfl
@[simp] theorem kCall_3 {F : Fn} {a b c : D} : kCall 3 F [a, b, c] st = ofF st (F [a, b, c] st.store) := rfl
@[simp] theorem kCall_4 {F : Fn} {a b c d : D} : kCall 4 F [a, b, c, d] st = ofF st (F [a, b, c, d] st.store) := rfl
@[simp] theorem r_call {n : Nat} {F : Fn} : mCall n F ml st = (ml st).bd (kCall n F) := by
  show (ml st).bd (fun ds st => if ds.length = n then ofF st (F ds st.store) else .stuck) = _
  rfl
@[simp] theorem ofF_sh {d : D} {store : List Cell} : ofF st (.ret (.sh d) store) = .ok (.sh d) { st with store := store } := rfl
@[simp] theorem ofF_ow {d : Cell} {store : List Cell} : ofF st (.ret (.ow d) store) = .ok (.ow d) { st with store := store } := rfl
@[simp] theorem ofF_exc {c : Exc} {store : List Cell} : ofF st (.exc c store) = .exc c { st with store := store } := rfl
@[simp] theorem toF_sh {d : D} : toF (.rt (.sh d) st) = .ret (.sh d) st.store := rfl
@[simp] theorem toF_ow {d : Cell} : toF (.rt (.ow d) st) = .ret (.ow d) st.store := rfl
@[simp] theorem toF_nx : toF (.nx st) = .ret (.sh .non) st.store := rfl
@[simp] theorem toF_exc {c : Exc} : toF (.exc c st) = .exc c st.store := rfl
/-! what values look like -/
@[simp] theorem view_non : view st (.sh .non) = some .non := rfl
@[simp] theorem view_bl {x : Bool} : view st (.sh (.bl x)) = some (.bl x) := rfl
@[simp] theorem view_int {x : Int} : view st (.sh (.int x)) = some (.int x) := rfl
@[simp] theorem view_str {x : Str} : view st (.sh (.str x)) = some (.str x) := rfl
@[simp] theorem view_tup {x : List D} : view st (.sh (.tup x)) = some (.tup x) := rfl
@[simp] theorem view_lst {x : List D} : view st (.sh (.lst x)) = some (.lst x) := rfl
@[simp] theorem view_lsF {x : List D} : view st (.sh (.lsF x)) = some (.lsF x) := rfl
@[simp] theorem view_tpF {x : List D} : view st (.sh (.tpF x)) = some (.tpF x) := rfl
@[simp] theorem view_dct {x : List (Key × D)} : view st (.sh (.dct x)) = some (.dct x) := rfl
@[simp] theorem view_rcd {C : Str} {x : List (Str × D)} : view st (.sh (.rcd C x)) = some (.rcd C x) := rfl
@[simp] theorem view_val {x : V} : view st (.sh (.val x)) = some (.val x) := rfl
theorem view_lo {i : Nat} : view st (.lo i) = match st.env[i]? with
  | some (.sh d) => some d
  | some (.ow c) => some c.frz
  | _ => none := rfl
theorem view_dc {n : Nat} {kvs : List (Key × D)} (h : st.store[n]? = some (.dc kvs)) : view st (.sh (.obj n)) = some (.dct kvs) := by simp only [view, h]
end
@[simp] theorem atI_0 {α : Type} {x : α} {xs : List α} : atI (x :: xs) 0 = some x := atI_nat (j := 0) rfl
@[simp] theorem atI_1 {α : Type} {x y : α} {xs : List α} : atI (x :: y :: xs) 1 = some y := atI_nat (j := 1) rfl
@[simp] theorem atI_2 {α : Type} {x y z : α} {xs : List α} : atI (x :: y :: z :: xs) 2 = some z := atI_nat (j := 2) rfl
theorem sml_of {i : Int} {k : Nat} (h : i.natAbs < 2 ^ k) (hk : k ≤ 399999) : sml i = true := by
  unfold sml
  by_cases h0 : i.natAbs = 0
  · rw [h0]; decide
  · exact decide_eq_true (Nat.lt_of_lt_of_le ((Nat.log2_lt h0).mpr h) (by omega))
/-! the operations -/
@[simp] theorem opAdd_i {i j : Int} : opAdd (.int i) (.int j) = some (.sh (.int (i + j))) := rfl
@[simp] theorem opSub_i {i j : Int} : opSub (.int i) (.int j) = some (.sh (.int (i - j))) := rfl
@[simp] theorem opMul_i {i j : Int} (h1 : sml i = true) (h2 : sml j = true) : opMul (.int i) (.int j) = some (.sh (.int (i * j))) := by simp [opMul, h1, h2]
@[simp] theorem opFdv_i {i j : Int} (h1 : 0 < j) (h2 : j.natAbs.log2 < 9000) : opFdv (.int i) (.int j) = some (.sh (.int (i / j))) := by simp [opFdv, h1, h2]
theorem opFdv_n {i j : Int} (h1 : j < 0) (h2 : j.natAbs.log2 < 9000) : opFdv (.int i) (.int j) = some (.sh (.int (i.fdiv j))) := by simp [opFdv, h1, h2, Int.not_lt.mpr (Int.le_of_lt h1)]
@[simp] theorem opMod_i {i j : Int} (h1 : 0 < j) : opMod (.int i) (.int j) = some (.sh (.int (i % j))) := by simp [opMod, h1]
@[simp] theorem opNeg_i {i : Int} : opNeg (.int i) = some (.sh (.int (-i))) := rfl
@[simp] theorem opAbs_i {i : Int} : opAbs (.int i) = some (.sh (.int (i.natAbs : Int))) := by
  have e : (if i < 0 then -i else i) = (i.natAbs : Int) := by split <;> omega
  show some (RV.sh (.int (if i < 0 then -i else i))) = _
  rw [e]
@[simp] theorem opLt_i {i j : Int} : opLt (.int i) (.int j) = some (decide (i < j)) := rfl
@[simp] theorem opLe_i {i j : Int} : opLe (.int i) (.int j) = some (decide (i ≤ j)) := rfl
@[simp] theorem opGt_i {i j : Int} : opGt (.int i) (.int j) = some (decide (j < i)) := rfl
@[simp] theorem opGe_i {i j : Int} : opGe (.int i) (.int j) = some (decide (j ≤ i)) := rfl
@[simp] theorem opIx_t {ds : List D} {i : Int} : opIx (.tup ds) (.int i) = (atI ds i).map .sh := rfl
@[simp] theorem opIx_l {ds : List D} {i : Int} : opIx (.lst ds) (.int i) = (atI ds i).map .sh := rfl
@[simp] theorem opIx_d {kvs : List (Key × D)} {k : D} : opIx (.dct kvs) k = (asKey k).bind fun k => (dget kvs k).map .sh := by cases k <;> rfl
end PM
set_option Elab.async false
set_option linter.all false
set_option maxRecDepth 100000
set_option maxHeartbeats 1200000
namespace PM
open PySem PySem.Spec L2
section
variable {st : State} {a b c m : M RV} {own : List Nat} {g : D → State → Option State} {t : M Bool} {e : M RV} {it : M (List D)}
/-! ### comprehensions -/
def kCo2 (o : Out (List D)) : Out RV := match o with
  | .ok xs st' => .ok (.ow (.ls xs)) st'
  | _ => .stuck
@[simp] theorem kCo2_e {xs : List D} : kCo2 (.ok xs st) = .ok (.ow (.ls xs)) st := rfl
def kCo (own : List Nat) (g : D → State → Option State) (t : M Bool) (e : M RV) (ds : List D) (st : State) : Out RV := kCo2 (mCompL own g t e ds [] (st.wipe own))
theorem kCo_e {ds : List D} : kCo own g t e ds st = kCo2 (mCompL own g t e ds [] (st.wipe own)) := rfl
@[simp] theorem r_comp : mComp own it g t e st = (it st).bd (kCo own g t e) := by
  show (it st).bd (fun ds st => match mCompL own g t e ds [] (st.wipe own) with
    | .ok xs st' => Out.ok (RV.ow (.ls xs)) st'
    | _ => .stuck) = _
  congr 1
@[simp] theorem wipe_e {env : List Slot} {s : List Cell} : State.wipe ⟨env, s⟩ own = ⟨wipeE env own, s⟩ := rfl
@[simp] theorem wipeE_n {env : List Slot} : wipeE env [] = env := rfl
@[simp] theorem wipeE_1 {env : List Slot} {i : Nat} {is : List Nat} : wipeE env (i :: is) = (wipeE env is).set i .un := rfl
/-! ### d[k] = v -/
def kU (o : Option (D × State)) : SOut := match o with
  | some (_, st') => .nx st'
  | none => .stuck
@[simp] theorem kU_s {d : D} : kU (some (d, st)) = .nx st := rfl
@[simp] theorem kU_n : kU none = .stuck := rfl
def kU4 (d : D) (r : RV) (kd : D) (st : State) : SOut := kU (upC (putC kd d) r.bor st)
def kU3 (d : D) (r : RV) (s : RV) (st : State) : SOut := (RV.frz s st).th (kU4 d r)
def kU2 (k : M RV) (d : D) (r : RV) (st : State) : SOut := (k st).th (kU3 d r)
def kU1 (a k : M RV) (d : D) (st : State) : SOut := (a st).th (kU2 k d)
def kU0 (a k : M RV) (r : RV) (st : State) : SOut := (RV.frz r st).th (kU1 a k)
@[simp] theorem kU4_e {d kd : D} {r : RV} : kU4 d r kd st = kU (upC (putC kd d) r.bor st) := rfl
@[simp] theorem kU3_e {d : D} {r s : RV} : kU3 d r s st = (RV.frz s st).th (kU4 d r) := rfl
@[simp] theorem kU2_e {d : D} {r : RV} : kU2 b d r st = (b st).th (kU3 d r) := rfl
@[simp] theorem kU1_e {d : D} : kU1 a b d st = (a st).th (kU2 b d) := rfl
@[simp] theorem kU0_e {r : RV} : kU0 a b r st = (RV.frz r st).th (kU1 a b) := rfl
@[simp] theorem r_put : mPut a b c st = (c st).th (kU0 a b) := by
  have e3 : ∀ (d : D) (r : RV) (st : State), (M.frz b).then (fun kd st => match upC (putC kd d) r.bor.bor st with
      | some (_, st') => SOut.nx st'
      | none => .stuck) st = kU2 b d r st := fun d r st => by
    have eb : r.bor.bor = r.bor := by cases r <;> rfl
    rw [eb]
    have e4 : ∀ (s : RV) (st : State), (RV.frz s st).th (fun kd st => match upC (putC kd d) r.bor st with
      | some (_, st') => SOut.nx st'
      | none => .stuck) = kU3 d r s st := fun s st => by
      show _ = (RV.frz s st).th (kU4 d r)
      congr 1
    show ((b st).bd RV.frz).th _ = (b st).th (kU3 d r)
    cases b st with
    | ok s st1 => exact e4 s st1
    | exc c st1 => rfl
    | stuck => rfl
  have e2 : ∀ (d : D) (st : State), (M.bind a fun r => M.pure r.bor).then (fun r => (M.frz b).then (fun kd st => match upC (putC kd d) r.bor st with
      | some (_, st') => SOut.nx st'
      | none => .stuck)) st = kU1 a b d st := fun d st => by
    show ((a st).bd fun r st => .ok r.bor st).th _ = (a st).th (kU2 b d)
    cases a st with
    | ok r st1 => exact e3 d r st1
    | exc c st1 => rfl
    | stuck => rfl
  have e5 : ∀ (r : RV) (st : State), (RV.frz r st).th (fun d => (M.bind a fun r => M.pure r.bor).then (fun r => (M.frz b).then (fun kd st => match upC (putC kd d) r.bor st with
      | some (_, st') => SOut.nx st'
      | none => .stuck))) = kU0 a b r st := fun r st => by
    show _ = (RV.frz r st).th (kU1 a b)
    congr 1
    funext d st2
    exact e2 d st2
  show ((c st).bd RV.frz).th _ = (c st).th (kU0 a b)
  cases c st with
  | ok r st1 => exact e5 r st1
  | exc c st1 => rfl
  | stuck => rfl
/-! ### slices -/
def kPt (r : RV) (st : State) : Out (Option Int) := match r with
  | .sh (.int i) => .ok (some i) st
  | _ => .stuck
@[simp] theorem kPt_e {i : Int} : kPt (.sh (.int i)) st = .ok (some i) st := rfl
@[simp] theorem r_pt : mPt m st = (m st).bd kPt := by
  show M.bind m _ st = _
  rw [r_bind]; congr 1; funext r st
  cases r with
  | sh d => cases d <;> rfl
  | ow c => rfl
  | lo i => rfl
def kS2 (r : RV) (l h : Option Int) (st : State) : Out RV := Out.opt (on1 (fun x => opSl x l h) (view st r.bor)) st
def kS1 (hi : M (Option Int)) (r : RV) (l : Option Int) (st : State) : Out RV := (hi st).bd (kS2 r l)
def kS0 (lo hi : M (Option Int)) (r : RV) (st : State) : Out RV := (lo st).bd (kS1 hi r)
@[simp] theorem kS2_e {r : RV} {l h : Option Int} : kS2 r l h st = Out.opt (on1 (fun x => opSl x l h) (view st r.bor)) st := rfl
@[simp] theorem kS1_e {hi : M (Option Int)} {r : RV} {l : Option Int} : kS1 hi r l st = (hi st).bd (kS2 r l) := rfl
@[simp] theorem kS0_e {lo hi : M (Option Int)} {r : RV} : kS0 lo hi r st = (lo st).bd (kS1 hi r) := rfl
@[simp] theorem r_sl {lo hi : M (Option Int)} : mSl a lo hi st = (a st).bd (kS0 lo hi) := by
  have e : ∀ (r : RV) (st : State), (M.bind lo fun l => M.bind hi fun h => at1 (fun x => opSl x l h) r.bor) st = kS0 lo hi r st := fun r st => by
    show (lo st).bd _ = (lo st).bd (kS1 hi r)
    congr 1; funext l st
    show (hi st).bd _ = (hi st).bd (kS2 r l)
    congr 1; funext h st
    exact r_at1
  show ((a st).bd fun r st => .ok r.bor st).bd (fun r => M.bind lo fun l => M.bind hi fun h => at1 (fun x => opSl x l h) r) = _
  cases a st with
  | ok r st => exact e r st
  | exc c st => rfl
  | stuck => rfl
/-! ### f'..' -/
def kJ (ms : List (M RV)) (acc : Str) (r : RV) (st : State) : Out Str := match r with
  | .sh (.str z) => if (acc ++ z).length ≤ lim then mJs ms (acc ++ z) st else .stuck
  | _ => .stuck
@[simp] theorem r_js0 {acc : Str} : mJs [] acc st = .ok acc st := rfl
@[simp] theorem r_js {m : M RV} {ms : List (M RV)} {acc : Str} : mJs (m :: ms) acc st = (m st).bd (kJ ms acc) := by
  show M.bind m _ st = _
  rw [r_bind]; congr 1; funext r st
  cases r with
  | sh d =>
    cases d <;> try rfl
    rename_i z
    show (if (acc ++ z).length ≤ lim then mJs ms (acc ++ z) else M.stuck) st = (if (acc ++ z).length ≤ lim then mJs ms (acc ++ z) st else .stuck)
    split <;> rfl
  | ow c => rfl
  | lo i => rfl
def kJo (z : Str) (st : State) : Out RV := .ok (.sh (.str z)) st
@[simp] theorem kJo_e {z : Str} : kJo z st = .ok (.sh (.str z)) st := rfl
@[simp] theorem r_join {ms : List (M RV)} : mJoin ms st = (mJs ms Str.empty st).bd kJo := rfl
/-! ### new things -/
def kNew (r : RV) (st : State) : Out RV := match r with
  | .ow c => .ok (.sh (.obj st.store.length)) { st with store := st.store ++ [c] }
  | _ => .stuck
@[simp] theorem kNew_e {c : Cell} : kNew (.ow c) st = .ok (.sh (.obj st.store.length)) { st with store := st.store ++ [c] } := rfl
@[simp] theorem r_new : mNew m st = (m st).bd kNew := by
  show (m st).bd (fun r st => match r with
    | .ow c => (Out.ok (RV.sh (.obj st.store.length)) { st with store := st.store ++ [c] } : Out RV)
    | _ => .stuck) = _
  congr 1
def kD3 (x y : D) (ps : List (D × D)) (st : State) : Out (List (D × D)) := .ok ((x, y) :: ps) st
def kD2 (r : List (M RV × M RV)) (x y : D) (st : State) : Out (List (D × D)) := (mPr r st).bd (kD3 x y)
def kD1' (r : List (M RV × M RV)) (x : D) (s : RV) (st : State) : Out (List (D × D)) := (RV.frz s st).bd (kD2 r x)
def kD1 (v : M RV) (r : List (M RV × M RV)) (x : D) (st : State) : Out (List (D × D)) := (v st).bd (kD1' r x)
def kD0 (v : M RV) (r : List (M RV × M RV)) (s : RV) (st : State) : Out (List (D × D)) := (RV.frz s st).bd (kD1 v r)
variable {r : List (M RV × M RV)} {x y : D} {s : RV} {v k : M RV} {ps : List (D × D)}
@[simp] theorem kD3_e : kD3 x y ps st = .ok ((x, y) :: ps) st := rfl
@[simp] theorem kD2_e : kD2 r x y st = (mPr r st).bd (kD3 x y) := rfl
@[simp] theorem kD1'_e : kD1' r x s st = (RV.frz s st).bd (kD2 r x) := rfl
@[simp] theorem kD1_e : kD1 v r x st = (v st).bd (kD1' r x) := rfl
@[simp] theorem kD0_e : kD0 v r s st = (RV.frz s st).bd (kD1 v r) := rfl
@[simp] theorem r_pr0 : mPr [] st = .ok [] st := rfl
@[simp] theorem r_pr : mPr ((k, v) :: r) st = (k st).bd (kD0 v r) := by
  show ((k st).bd RV.frz).bd (fun x => M.bind (M.frz v) fun y => M.bind (mPr r) fun ps => M.pure ((x, y) :: ps)) = _
  cases k st with
  | ok s st =>
    show (RV.frz s st).bd _ = (RV.frz s st).bd (kD1 v r)
    congr 1; funext x st
    show ((v st).bd RV.frz).bd (fun y => M.bind (mPr r) fun ps => M.pure ((x, y) :: ps)) = (v st).bd (kD1' r x)
    cases v st <;> rfl
  | exc c st => rfl
  | stuck => rfl
def kDi (ps : List (D × D)) (st : State) : Out RV := match asKs ps with
  | some kvs => if kvs.length ≤ 15 then .ok (.ow (.dc (mergeD [] kvs))) st else .stuck
  | none => .stuck
theorem kDi_e {kvs : List (Key × D)} (h : asKs ps = some kvs) (hl : kvs.length ≤ 15) : kDi ps st = .ok (.ow (.dc (mergeD [] kvs))) st := by simp only [kDi, h, if_pos hl]
@[simp] theorem r_disp : mDisp r st = (mPr r st).bd kDi := by
  show M.bind (mPr r) _ st = _
  rw [r_bind]; congr 1; funext ps st
  show (match asKs ps with
    | some kvs => if kvs.length ≤ 15 then M.pure (.ow (.dc (mergeD [] kvs))) else M.stuck
    | none => M.stuck : M RV) st = kDi ps st
  unfold kDi
  cases asKs ps with
  | none => rfl
  | some kvs => simp only; split <;> rfl
end
end PM
set_option Elab.async false
set_option linter.all false
set_option maxRecDepth 100000
set_option maxHeartbeats 1200000
namespace PM
open PySem PySem.Spec L2
/-! ### how runs are reckoned: errors, instances -/
section
variable {α β : Type} {st : State} {m a b c o v : M RV} {ml mk : M (List D)} {C Y x f g : Str} {fs : List (Str × D)} {r s : RV} {ys Cs Xs : List Str} {l : List Hnd} {body : MS}
def kB1 (G : RV → State → Out β) (r : RV) (st : State) : Out β := G r.bor st
def kB2 (b : M RV) (G : RV → RV → State → Out β) (r : RV) (st : State) : Out β := (b st).bd (kB1 (G r.bor))
@[simp] theorem kB1_e {G : RV → State → Out β} : kB1 G r st = G r.bor st := rfl
@[simp] theorem kB2_e {G : RV → RV → State → Out β} : kB2 b G r st = (b st).bd (kB1 (G r.bor)) := rfl
theorem r_b1 {G : RV → State → Out β} : (a.bor.bind G) st = (a st).bd (kB1 G) := by
  unfold kB1
  cases h : a st <;> simp [M.bor, M.bind, M.pure, h, Out.bd]
theorem r_b2 {G : RV → RV → State → Out β} : (a.bor.bind fun r => b.bor.bind (G r)) st = (a st).bd (kB2 b G) := by
  unfold kB2 kB1
  cases h1 : a st with
  | ok r st1 => cases h2 : b st1 <;> simp [M.bor, M.bind, M.pure, h1, h2, Out.bd]
  | exc c st1 => simp [M.bor, M.bind, M.pure, h1, Out.bd]
  | stuck => simp [M.bor, M.bind, M.pure, h1, Out.bd]
/-! raise -/
def kRz (C : Str) (fs : List Str) (ds : List D) (st : State) : SOut := if ds.length = fs.length then .exc ⟨.own C, if fs = [] then none else some (fs.zip ds).reverse⟩ st else .stuck
@[simp] theorem r_raise {fs : List Str} : mRaise C fs ml st = (ml st).th (kRz C fs) := rfl
@[simp] theorem kRz_0 : kRz C [] [] st = .exc ⟨.own C, none⟩ st := rfl
@[simp] theorem kRz_1 {d : D} : kRz C [f] [d] st = .exc ⟨.own C, some [(f, d)]⟩ st := rfl
@[simp] theorem kRz_2 {d e : D} : kRz C [f, g] [d, e] st = .exc ⟨.own C, some [(g, e), (f, d)]⟩ st := rfl
/-! try -/
def kTry (ys : List Str) (l : List Hnd) : SOut → SOut
  | .exc c st => runH ys l c st
  | o => o
@[simp] theorem kTry_nx : kTry ys l (.nx st) = .nx st := rfl
@[simp] theorem kTry_rt : kTry ys l (.rt r st) = .rt r st := rfl
@[simp] theorem kTry_bk : kTry ys l (.bk st) = .bk st := rfl
@[simp] theorem kTry_ct : kTry ys l (.ct st) = .ct st := rfl
@[simp] theorem kTry_exc {c : Exc} : kTry ys l (.exc c st) = runH ys l c st := rfl
@[simp] theorem r_try : mTry body ys l st = kTry ys l (body st) := by
  unfold mTry kTry
  cases body st <;> rfl
@[simp] theorem r_runH0 {c : Exc} : runH ys [] c st = .exc c st := rfl
def kIn (ys : List Str) (Y : Str) (o : SOut) : SOut := if ys.contains Y then o else .stuck
@[simp] theorem r_runH {i : Option Nat} {d : Option (List (Str × D))} (hy : ys.contains C = true) : runH ys ((C, i, body) :: l) ⟨.own C, d⟩ st = runS i body ⟨.own C, d⟩ st := by
  simp only [runH, hy, if_true]
@[simp] theorem r_runS0 {c : Exc} : runS none body c st = noS (body st) := rfl
@[simp] theorem r_runS1 {c : Exc} {i : Nat} : runS (some i) body c st = unS i (body { st with env := st.env.set i (.sh c.toD) }) := rfl
@[simp] theorem toD_0 : Exc.toD ⟨.own C, none⟩ = .exn0 C := rfl
@[simp] theorem toD_1 : Exc.toD ⟨.own C, some fs⟩ = .exn C fs := rfl
@[simp] theorem unS_nx {i : Nat} : unS i (.nx st) = .nx (st.wipe [i]) := rfl
@[simp] theorem unS_bk {i : Nat} : unS i (.bk st) = .bk (st.wipe [i]) := rfl
@[simp] theorem unS_ct {i : Nat} : unS i (.ct st) = .ct (st.wipe [i]) := rfl
@[simp] theorem unS_sh {i : Nat} {d : D} : unS i (.rt (.sh d) st) = .rt (.sh d) (st.wipe [i]) := rfl
@[simp] theorem unS_ow {i : Nat} {d : Cell} : unS i (.rt (.ow d) st) = .rt (.ow d) (st.wipe [i]) := rfl
@[simp] theorem noS_nx : noS (.nx st) = .nx st := rfl
@[simp] theorem noS_rt : noS (.rt r st) = .rt r st := rfl
@[simp] theorem noS_bk : noS (.bk st) = .bk st := rfl
@[simp] theorem noS_ct : noS (.ct st) = .ct st := rfl
/-! isinstance -/
def isG (tab : IsiT) (bs : List Str) (r s : RV) (st : State) : Out RV := match thing st r with
  | some (C, _) => (match (tgtOf s).bind fun t => tab.lookup (C, t) with
    | some c => .ok (.sh (.bl c)) st
    | none => .stuck)
  | none => at2 (opIsi2 bs) r s st
def isXG (tx tab : IsiT) (bs : List Str) (r s : RV) (st : State) : Out RV := match excOf r with
  | some C => (match (tgtOf s).bind fun t => tx.lookup (C, t) with
    | some c => .ok (.sh (.bl c)) st
    | none => .stuck)
  | none => isG tab bs r s st
@[simp] theorem r_isi {tab : IsiT} {bs : List Str} : mIsi tab bs a b st = (a st).bd (kB2 b (isG tab bs)) := r_b2
@[simp] theorem r_isiX {tx tab : IsiT} {bs : List Str} : mIsiX tx tab bs a b st = (a st).bd (kB2 b (isXG tx tab bs)) := r_b2
def lkB (o : Option Bool) (st : State) : Out RV := Out.opt (o.map fun c => .sh (.bl c)) st
@[simp] theorem lkB_s {c : Bool} : lkB (some c) st = .ok (.sh (.bl c)) st := rfl
@[simp] theorem isXG_0t {tx tab : IsiT} {bs : List Str} {T : String} : isXG tx tab bs (.sh (.exn0 C)) (.sh (.val (.ty T))) st = lkB (tx.lookup (C, .ty T)) st := by
  show (match tx.lookup (C, .ty T) with | some c => _ | none => _) = _
  cases tx.lookup (C, .ty T) <;> rfl
@[simp] theorem isXG_0c {tx tab : IsiT} {bs : List Str} {B : Str} : isXG tx tab bs (.sh (.exn0 C)) (.sh (.cls B)) st = lkB (tx.lookup (C, .own B)) st := by
  show (match tx.lookup (C, .own B) with | some c => _ | none => _) = _
  cases tx.lookup (C, .own B) <;> rfl
@[simp] theorem isXG_1t {tx tab : IsiT} {bs : List Str} {T : String} : isXG tx tab bs (.sh (.exn C fs)) (.sh (.val (.ty T))) st = lkB (tx.lookup (C, .ty T)) st := by
  show (match tx.lookup (C, .ty T) with | some c => _ | none => _) = _
  cases tx.lookup (C, .ty T) <;> rfl
@[simp] theorem isXG_1c {tx tab : IsiT} {bs : List Str} {B : Str} : isXG tx tab bs (.sh (.exn C fs)) (.sh (.cls B)) st = lkB (tx.lookup (C, .own B)) st := by
  show (match tx.lookup (C, .own B) with | some c => _ | none => _) = _
  cases tx.lookup (C, .own B) <;> rfl
@[simp] theorem isG_rt {tab : IsiT} {bs : List Str} {T : String} : isG tab bs (.sh (.rcd C fs)) (.sh (.val (.ty T))) st = lkB (tab.lookup (C, .ty T)) st := by
  show (match tab.lookup (C, .ty T) with | some c => _ | none => _) = _
  cases tab.lookup (C, .ty T) <;> rfl
@[simp] theorem isG_rc {tab : IsiT} {bs : List Str} {B : Str} : isG tab bs (.sh (.rcd C fs)) (.sh (.cls B)) st = lkB (tab.lookup (C, .own B)) st := by
  show (match tab.lookup (C, .own B) with | some c => _ | none => _) = _
  cases tab.lookup (C, .own B) <;> rfl
/-! fields -/
def flG (Cs : List Str) (f : Str) (r : RV) (st : State) : Out RV := match thing st r with
  | some (C, fs) => if Cs.contains C then (match fs.lookup f with
    | some d => .ok (.sh d) st
    | none => .stuck) else .stuck
  | none => .stuck
@[simp] theorem r_fld : mFld Cs f a st = (a st).bd (kB1 (flG Cs f)) := r_b1
def flO (Cs : List Str) (C f : Str) (fs : List (Str × D)) : Option RV := if Cs.contains C then (fs.lookup f).map .sh else none
theorem flG_of (h : thing st r = some (C, fs)) : flG Cs f r st = Out.opt (flO Cs C f fs) st := by
  simp only [flG, h, flO]
  split
  · cases fs.lookup f <;> rfl
  · rfl
@[simp] theorem flG_r : flG Cs f (.sh (.rcd C fs)) st = Out.opt (flO Cs C f fs) st := flG_of rfl
theorem flO_e {d : D} (h : Cs.contains C = true) (hl : fs.lookup f = some d) : flO Cs C f fs = some (.sh d) := by
  unfold flO
  rw [if_pos h, hl]
  rfl
def fxG (Xs : List Str) (f : Str) (r : RV) (st : State) : Out RV := match xthing r with
  | some (C, fs) => if Xs.contains C then (match fs.lookup f with
    | some d => .ok (.sh d) st
    | none => .stuck) else .stuck
  | none => .stuck
@[simp] theorem r_fldX : mFldX Xs f a st = (a st).bd (kB1 (fxG Xs f)) := r_b1
@[simp] theorem fxG_e : fxG Xs f (.sh (.exn C fs)) st = Out.opt (flO Xs C f fs) st := by
  simp only [fxG, xthing, flO]
  split
  · cases fs.lookup f <;> rfl
  · rfl
def kSf2 (Cs : List Str) (f : Str) (d : D) (r : RV) (st : State) : SOut := kU (upC (putFC Cs f d) r.bor st)
def kSf (Cs : List Str) (f : Str) (o : M RV) (d : D) (st : State) : SOut := (o st).th (kSf2 Cs f d)
def kSf0 (Cs : List Str) (f : Str) (o : M RV) (r : RV) (st : State) : SOut := (RV.frz r st).th (kSf Cs f o)
@[simp] theorem kSf2_e {d : D} : kSf2 Cs f d r st = kU (upC (putFC Cs f d) r.bor st) := rfl
@[simp] theorem kSf_e {d : D} : kSf Cs f o d st = (o st).th (kSf2 Cs f d) := rfl
@[simp] theorem kSf0_e : kSf0 Cs f o r st = (RV.frz r st).th (kSf Cs f o) := rfl
@[simp] theorem r_setF : mSetF Cs f o v st = (v st).th (kSf0 Cs f o) := by
  unfold mSetF kSf0 kSf kSf2 kU
  cases h1 : v st with
  | ok r st1 =>
    cases h2 : RV.frz r st1 with
    | ok d st2 =>
      cases h3 : o st2 with
      | ok q st3 =>
        have eb : q.bor.bor = q.bor := by cases q <;> rfl
        simp [M.frz, M.bor, M.bind, M.then, M.pure, h1, h2, h3, Out.bd, Out.th, eb]
        all_goals (cases upC (putFC Cs f d) q.bor st3 <;> rfl)
      | exc => simp [M.frz, M.bor, M.bind, M.then, M.pure, h1, h2, h3, Out.bd, Out.th]
      | stuck => simp [M.frz, M.bor, M.bind, M.then, M.pure, h1, h2, h3, Out.bd, Out.th]
    | exc => simp [M.frz, M.bor, M.bind, M.then, M.pure, h1, h2, Out.bd, Out.th]
    | stuck => simp [M.frz, M.bor, M.bind, M.then, M.pure, h1, h2, Out.bd, Out.th]
  | exc => simp [M.frz, M.bor, M.bind, M.then, M.pure, h1, Out.bd, Out.th]
  | stuck => simp [M.frz, M.bor, M.bind, M.then, M.pure, h1, Out.bd, Out.th]
/-! making -/
def kMk2 (i : Nat) (st : State) : FRes → Out RV
  | .ret (.sh .non) store' => .ok (.sh (.obj i)) { st with store := store' }
  | .exc c store' => .exc c { st with store := store' }
  | _ => .stuck
@[simp] theorem kMk2_n {i : Nat} {store : List Cell} : kMk2 i st (.ret (.sh .non) store) = .ok (.sh (.obj i)) { st with store := store } := rfl
@[simp] theorem kMk2_x {i : Nat} {c : Exc} {store : List Cell} : kMk2 i st (.exc c store) = .exc c { st with store := store } := rfl
def kMk (C : Str) (n : Nat) (F : Fn) (ds : List D) (st : State) : Out RV := if ds.length = n then kMk2 st.store.length st (F (.obj st.store.length :: ds) (st.store ++ [.ins C []])) else .stuck
@[simp] theorem kMk_0 {F : Fn} : kMk C 0 F [] st = kMk2 st.store.length st (F [.obj st.store.length] (st.store ++ [.ins C []])) := rfl
@[simp] theorem kMk_1 {F : Fn} {d : D} : kMk C 1 F [d] st = kMk2 st.store.length st (F [.obj st.store.length, d] (st.store ++ [.ins C []])) := rfl
@[simp] theorem kMk_2 {F : Fn} {d e : D} : kMk C 2 F [d, e] st = kMk2 st.store.length st (F [.obj st.store.length, d, e] (st.store ++ [.ins C []])) := rfl
@[simp] theorem kMk_3 {F : Fn} {d e g : D} : kMk C 3 F [d, e, g] st = kMk2 st.store.length st (F [.obj st.store.length, d, e, g] (st.store ++ [.ins C []])) := rfl
@[simp] theorem r_make {n : Nat} {F : Fn} : mMake C n F ml st = (ml st).bd (kMk C n F) := by
  show (ml st).bd (fun ds st => _) = _
  rfl
@[simp] theorem r_makeL {i n : Nat} {F : Fn} (h : st.env[i]? = some (.sh (.cls C))) : mMakeL i C n F ml st = (ml st).bd (kMk C n F) := by
  unfold mMakeL
  simp only [h, if_true]
  exact r_make
def kFz (r : RV) (st : State) : Out RV := match r with
  | .sh (.obj n) => (match st.store[n]? with
    | some (.ins C fs) => .ok (.sh (.rcd C fs)) { st with store := st.store.set n .dead }
    | _ => .stuck)
  | _ => .stuck
@[simp] theorem r_fz : mFz m st = (m st).bd kFz := rfl
/-! operators -/
def biG (tab : List (Str × Fn)) (g : D → D → Option RV) (r s : RV) (st : State) : Out RV := match same2 st r s with
  | some (C, x, y) => ownC tab C [x, y] st
  | none => at2 g r s st
def cmG (tab : List (Str × Fn)) (g : D → D → Option Bool) (r s : RV) (st : State) : Out Bool := match same2 st r s with
  | some (C, x, y) => (ownC tab C [x, y]).bind okB st
  | none => at2 g r s st
def inG (tab : List (Str × Fn)) (g : D → D → Option Bool) (r s : RV) (st : State) : Out Bool := match thing st s with
  | some (C, _) => (match r, s with
    | .sh x, .sh y => (ownC tab C [y, x]).bind okB st
    | _, _ => .stuck)
  | none => at2 g r s st
def trG (tab : List (Str × Fn)) (r : RV) (st : State) : Out Bool := match thing st r with
  | some (C, _) => (match r with
    | .sh x => (ownC tab C [x]).bind okB st
    | _ => .stuck)
  | none => okB r st
@[simp] theorem r_bin {tab : List (Str × Fn)} {g : D → D → Option RV} : mBin tab g a b st = (a st).bd (kB2 b (biG tab g)) := r_b2
@[simp] theorem r_cmp2 {tab : List (Str × Fn)} {g : D → D → Option Bool} : mCmp2 tab g a b st = (a st).bd (kB2 b (cmG tab g)) := r_b2
@[simp] theorem r_in2 {tab : List (Str × Fn)} {g : D → D → Option Bool} : mIn2 tab g a b st = (a st).bd (kB2 b (inG tab g)) := r_b2
@[simp] theorem r_tru {tab : List (Str × Fn)} : mTru tab a st = (a st).bd (kB1 (trG tab)) := r_b1
@[simp] theorem okB_e {c : Bool} : okB (.sh (.bl c)) st = .ok c st := rfl
@[simp] theorem trG_b {tab : List (Str × Fn)} {c : Bool} : trG tab (.sh (.bl c)) st = .ok c st := rfl
/-! methods -/
def kN (n : Nat) (F : Fn) (x : D) (ds : List D) (st : State) : Out RV := if ds.length = n then ofF st (F (x :: ds) st.store) else .stuck
@[simp] theorem kN_0 {F : Fn} {x : D} : kN 0 F x [] st = ofF st (F [x] st.store) := rfl
@[simp] theorem kN_1 {F : Fn} {x y : D} : kN 1 F x [y] st = ofF st (F [x, y] st.store) := rfl
@[simp] theorem kN_2 {F : Fn} {x y z : D} : kN 2 F x [y, z] st = ofF st (F [x, y, z] st.store) := rfl
@[simp] theorem kN_3 {F : Fn} {x y z w : D} : kN 3 F x [y, z, w] st = ofF st (F [x, y, z, w] st.store) := rfl
@[simp] theorem r_callN {n : Nat} {F : Fn} {x : D} : callN n F x ml st = (ml st).bd (kN n F x) := rfl
def meG (tab : List (Str × Fn)) (m : Str) (n : Nat) (args : M (List D)) (r : RV) (st : State) : Out RV := match r with
  | .sh x => (match thing st (.sh x) with
    | some (C, fs) => if (fs.lookup m).isNone then (match tab.lookup C with
      | some F => callN n F x args st
      | none => .stuck) else .stuck
    | none => .stuck)
  | _ => .stuck
@[simp] theorem r_meth {tab : List (Str × Fn)} {n : Nat} : mMeth tab f n o ml st = (o st).bd (kB1 (meG tab f n ml)) := r_b1
def prG (tab : List (Str × Fn)) (r : RV) (st : State) : Out RV := match r with
  | .sh x => (match thing st (.sh x) with
    | some (C, _) => noX (ownC tab C [x]) st
    | none => .stuck)
  | _ => .stuck
@[simp] theorem r_prop {tab : List (Str × Fn)} : mProp tab o st = (o st).bd (kB1 (prG tab)) := r_b1
def nXo : Out RV → Out RV
  | .ok r st => .ok r st
  | _ => .stuck
@[simp] theorem nXo_ok : nXo (.ok r st) = .ok r st := rfl
@[simp] theorem r_cm {n : Nat} {F : Fn} : mCm C n F ml st = (ml st).bd (kN n F (.cls C)) := rfl
@[simp] theorem kCall_5 {F : Fn} {a b c d e : D} : kCall 5 F [a, b, c, d, e] st = ofF st (F [a, b, c, d, e] st.store) := rfl
@[simp] theorem kCall_6 {F : Fn} {a b c d e f : D} : kCall 6 F [a, b, c, d, e, f] st = ofF st (F [a, b, c, d, e, f] st.store) := rfl
/-! more -/
def kSt3 (xs ys : List D) (st : State) : Out (List D) := .ok (xs ++ ys) st
def kSt2 (ml : M (List D)) (xs : List D) (st : State) : Out (List D) := (ml st).bd (kSt3 xs)
def kSt1 (ml : M (List D)) (d : D) (st : State) : Out (List D) := (Out.opt (asSeq d) st).bd (kSt2 ml)
def kSt0 (ml : M (List D)) (r : RV) (st : State) : Out (List D) := (RV.frz r st).bd (kSt1 ml)
@[simp] theorem kSt3_e {xs ys : List D} : kSt3 xs ys st = .ok (xs ++ ys) st := rfl
@[simp] theorem kSt2_e {xs : List D} : kSt2 ml xs st = (ml st).bd (kSt3 xs) := rfl
@[simp] theorem kSt1_e {d : D} : kSt1 ml d st = (Out.opt (asSeq d) st).bd (kSt2 ml) := rfl
@[simp] theorem kSt0_e : kSt0 ml r st = (RV.frz r st).bd (kSt1 ml) := rfl
@[simp] theorem r_star : mStar a ml st = (a st).bd (kSt0 ml) := by
  unfold mStar kSt0 kSt1 kSt2 kSt3
  cases h1 : a st with
  | ok r st1 =>
    cases h2 : RV.frz r st1 with
    | ok d st2 =>
      cases h3 : asSeq d with
      | some xs => cases h4 : ml st2 <;> simp [M.frz, M.bind, M.pure, M.ofO, h1, h2, h3, h4, Out.bd]
      | none => simp [M.frz, M.bind, M.pure, M.ofO, M.stuck, h1, h2, h3, Out.bd]
    | exc => simp [M.frz, M.bind, M.pure, h1, h2, Out.bd]
    | stuck => simp [M.frz, M.bind, M.pure, h1, h2, Out.bd]
  | exc => simp [M.frz, M.bind, M.pure, h1, Out.bd]
  | stuck => simp [M.frz, M.bind, M.pure, h1, Out.bd]
def kZp2 (x y : D) (st : State) : Out (List D) := Out.opt (zip2 x y) st
def kZp1 (x : D) (s : RV) (st : State) : Out (List D) := (RV.frz s st).bd (kZp2 x)
def kZp0 (b : M RV) (x : D) (st : State) : Out (List D) := (b st).bd (kZp1 x)
def kZp (b : M RV) (r : RV) (st : State) : Out (List D) := (RV.frz r st).bd (kZp0 b)
@[simp] theorem kZp2_e {x y : D} : kZp2 x y st = Out.opt (zip2 x y) st := rfl
@[simp] theorem kZp1_e {x : D} : kZp1 x s st = (RV.frz s st).bd (kZp2 x) := rfl
@[simp] theorem kZp0_e {x : D} : kZp0 b x st = (b st).bd (kZp1 x) := rfl
@[simp] theorem kZp_e : kZp b r st = (RV.frz r st).bd (kZp0 b) := rfl
@[simp] theorem r_zip : mZip a b st = (a st).bd (kZp b) := by
  unfold mZip kZp kZp0 kZp1 kZp2
  cases h1 : a st with
  | ok r st1 =>
    cases h2 : RV.frz r st1 with
    | ok d st2 =>
      cases h3 : b st2 with
      | ok q st3 => cases h4 : RV.frz q st3 <;> simp [M.frz, M.bind, h1, h2, h3, h4, Out.bd]
      | exc => simp [M.frz, M.bind, h1, h2, h3, Out.bd]
      | stuck => simp [M.frz, M.bind, h1, h2, h3, Out.bd]
    | exc => simp [M.frz, M.bind, h1, h2, Out.bd]
    | stuck => simp [M.frz, M.bind, h1, h2, Out.bd]
  | exc => simp [M.frz, M.bind, h1, Out.bd]
  | stuck => simp [M.frz, M.bind, h1, Out.bd]
def boG (tab : List (Str × Fn)) (r : RV) (st : State) : Out RV := match r with
  | .sh x => (match thing st (.sh x) with
    | some (C, _) => ((noX (ownC tab C [x])).bind fun r => (okB r).bind fun b => M.pure (.sh (.bl b))) st
    | none => at1 opBool r st)
  | _ => at1 opBool r st
@[simp] theorem r_boolC {tab : List (Str × Fn)} : mBoolC tab a st = (a st).bd (kB1 (boG tab)) := r_b1
def chG (g g' : D → D → Option Bool) (c : M RV) (r s : RV) (st : State) : Out Bool := ((at2 g r s).bind fun t => if t then c.bor.bind fun u => at2 g' s u else M.pure false) st
@[simp] theorem r_ch {g g' : D → D → Option Bool} : mCh g g' a b c st = (a st).bd (kB2 b (chG g g' c)) := r_b2
def kCh2 (g' : D → D → Option Bool) (s u : RV) (st : State) : Out Bool := Out.opt (on2 g' (view st s) (view st u.bor)) st
def kCh1 (g' : D → D → Option Bool) (c : M RV) (s : RV) (t : Bool) (st : State) : Out Bool := if t then (c st).bd (kCh2 g' s) else .ok false st
@[simp] theorem kCh2_e {g' : D → D → Option Bool} {u : RV} : kCh2 g' s u st = Out.opt (on2 g' (view st s) (view st u.bor)) st := rfl
@[simp] theorem kCh1_t {g' : D → D → Option Bool} : kCh1 g' c s true st = (c st).bd (kCh2 g' s) := rfl
@[simp] theorem kCh1_f {g' : D → D → Option Bool} : kCh1 g' c s false st = .ok false st := rfl
@[simp] theorem chG_e {g g' : D → D → Option Bool} : chG g g' c r s st = (Out.opt (on2 g (view st r) (view st s)) st).bd (kCh1 g' c s) := by
  show M.bind (at2 g r s) _ st = _
  rw [r_bind, r_at2]
  cases on2 g (view st r) (view st s) with
  | none => rfl
  | some t =>
    cases t with
    | false => rfl
    | true =>
      show (M.bind (M.bor c) _) st = (c st).bd (kCh2 g' s)
      unfold kCh2
      cases h : c st <;> simp [M.bor, M.bind, M.pure, h, Out.bd]
def kCk2 (n j : Nat) (F : Fn) (ds es : List D) (st : State) : Out RV := if ds.length = n ∧ es.length = j then ofF st (F (ds ++ es) st.store) else .stuck
def kCk (n j : Nat) (F : Fn) (mk : M (List D)) (ds : List D) (st : State) : Out RV := (mk st).bd (kCk2 n j F ds)
@[simp] theorem kCk_e {n j : Nat} {F : Fn} {ds : List D} : kCk n j F mk ds st = (mk st).bd (kCk2 n j F ds) := rfl
@[simp] theorem r_callK {n j : Nat} {F : Fn} : mCallK n j F ml mk st = (ml st).bd (kCk n j F mk) := rfl
def kQ6 (i j l : Nat) (r s t : RV) (st : State) : SOut := if isLo s || isLo t then .stuck else .nx { st with env := ((st.env.set i r.slot).set j s.slot).set l t.slot }
def kQ5 (i j l : Nat) (r s t : RV) (st : State) : SOut := (RV.fix t st).th (kQ6 i j l r s)
def kQ4 (i j l : Nat) (c : M RV) (r s : RV) (st : State) : SOut := (c st).th (kQ5 i j l r s)
def kQ3 (i j l : Nat) (c : M RV) (r s : RV) (st : State) : SOut := (RV.fix s st).th (kQ4 i j l c r)
def kQ2 (i j l : Nat) (b c : M RV) (r : RV) (st : State) : SOut := (b st).th (kQ3 i j l c r)
def kQ1 (i j l : Nat) (b c : M RV) (r : RV) (st : State) : SOut := (RV.fix r st).th (kQ2 i j l b c)
@[simp] theorem kQ6_e {i j l : Nat} {t : RV} : kQ6 i j l r s t st = if isLo s || isLo t then .stuck else .nx { st with env := ((st.env.set i r.slot).set j s.slot).set l t.slot } := rfl
@[simp] theorem kQ5_e {i j l : Nat} {t : RV} : kQ5 i j l r s t st = (RV.fix t st).th (kQ6 i j l r s) := rfl
@[simp] theorem kQ4_e {i j l : Nat} : kQ4 i j l c r s st = (c st).th (kQ5 i j l r s) := rfl
@[simp] theorem kQ3_e {i j l : Nat} : kQ3 i j l c r s st = (RV.fix s st).th (kQ4 i j l c r) := rfl
@[simp] theorem kQ2_e {i j l : Nat} : kQ2 i j l b c r st = (b st).th (kQ3 i j l c r) := rfl
@[simp] theorem kQ1_e {i j l : Nat} : kQ1 i j l b c r st = (RV.fix r st).th (kQ2 i j l b c) := rfl
theorem fix_th {q : RV → MS} : (a.fix.then q) st = (a st).th (fun r st => (RV.fix r st).th q) := by
  cases h1 : a st with
  | ok r st1 =>
    have e : M.fix a st = RV.fix r st1 := by rw [r_fix, h1]; rfl
    simp only [M.then, e, Out.th]
    all_goals rfl
  | exc c st1 =>
    have e : M.fix a st = .exc c st1 := by rw [r_fix, h1]; rfl
    simp only [M.then, e, Out.th]
  | stuck =>
    have e : M.fix a st = .stuck := by rw [r_fix, h1]; rfl
    simp only [M.then, e, Out.th]
theorem th_congr {u w : α → State → SOut} {q : Out α} (h : ∀ r st, u r st = w r st) : q.th u = q.th w := by cases q <;> simp [Out.th, h]
@[simp] theorem r_par3 {i j l : Nat} : mPar3 i j l a b c st = (a st).th (kQ1 i j l b c) :=
  fix_th.trans (th_congr fun r st1 => th_congr fun r st2 => fix_th.trans (th_congr fun s st3 => th_congr fun s st4 => fix_th.trans (th_congr fun t st5 => rfl)))
end
end PM
set_option Elab.async false
set_option linter.all false
set_option maxRecDepth 100000
set_option maxHeartbeats 1200000
namespace PM
open PySem PySem.Spec L2
/-! ### loops by what they keep -/
section
variable {st : State} {m a b c : M RV}
def kRg (r : RV) (st : State) : Out (List D) := match asI r with
  | some i => if small i then .ok (rng 0 i.toNat) st else .stuck
  | none => .stuck
theorem kRg_e {i : Int} (h : small i = true) : kRg (.sh (.int i)) st = .ok (rng 0 i.toNat) st := if_pos h
@[simp] theorem r_rg1 : mRg1 m st = (m st).bd kRg := by
  unfold mRg1 kRg
  show (m st).bd _ = _
  congr 1
  funext r st1
  cases asI r with
  | none => rfl
  | some i =>
    simp only
    split <;> rfl
@[simp] theorem bd_frz {r : RV} : (Out.ok r st).bd RV.frz = RV.frz r st := rfl
@[simp] theorem kLst_5 {a b c d e : D} : kLst [a, b, c, d, e] st = .ok (.ow (.ls [a, b, c, d, e])) st := kLst_e (by simp [lim])
@[simp] theorem kLst_6 {a b c d e f : D} : kLst [a, b, c, d, e, f] st = .ok (.ow (.ls [a, b, c, d, e, f])) st := kLst_e (by simp [lim])
@[simp] theorem kLst_7 {a b c d e f g : D} : kLst [a, b, c, d, e, f, g] st = .ok (.ow (.ls [a, b, c, d, e, f, g])) st := kLst_e (by simp [lim])
@[simp] theorem kLst_8 {a b c d e f g h : D} : kLst [a, b, c, d, e, f, g, h] st = .ok (.ow (.ls [a, b, c, d, e, f, g, h])) st := kLst_e (by simp [lim])
@[simp] theorem kLst_9 {a b c d e f g h i : D} : kLst [a, b, c, d, e, f, g, h, i] st = .ok (.ow (.ls [a, b, c, d, e, f, g, h, i])) st := kLst_e (by simp [lim])
@[simp] theorem kLst_10 {a b c d e f g h i j : D} : kLst [a, b, c, d, e, f, g, h, i, j] st = .ok (.ow (.ls [a, b, c, d, e, f, g, h, i, j])) st := kLst_e (by simp [lim])
theorem rng_len {i : Int} {n : Nat} : (rng i n).length = n := by simp [rng]
theorem small_nat {n : Nat} (h : n < 4611686018427387904) : small (n : Int) = true := by
  unfold small
  simp only [decide_eq_true_eq]
  omega
end
end PM
set_option Elab.async false
set_option linter.all false
set_option maxRecDepth 100000
set_option maxHeartbeats 1200000
/-! ### xs[::-1] of a tuple -/
namespace PM
open PySem PySem.Spec L2 HT PySem.W PyProof.Rows
section
variable {prog : Program} {w : World} {A : Around} {E : Value → Shared → Prop} {s : Shared}
theorem places_rev (n : Nat) : Builtin.Slice.slicePlaces ((n : Int) - 1) (-1) (-1) = n := by
  unfold Builtin.Slice.slicePlaces
  have h1 : ¬ ((-1 : Int) > 0) := by omega
  have e : (- -1 : Int) = 1 := by decide
  simp only [h1, if_false, e, Int.ediv_one]
  split <;> omega
theorem sliceApplied_rev {sl : Addr} {vl vu vs : Value} {n : Nat} {Q : Int × Int × Nat → Shared → Prop} (hs : s.heap.IsSliceOf sl vl vu vs) (pl : IsPart vl none) (pu : IsPart vu none) (ps : IsPart vs (some (-1)))
    (h : Q ((n : Int) - 1, -1, n) s) : wpAny (model prog w) A (Builtin.Slice.sliceApplied (.ref sl) (pure (n : Int))) Q E s := by
  obtain ⟨os, hos, hcs, hds⟩ := id hs
  unfold Builtin.Slice.sliceApplied Builtin.Slice.sliceFields
  refine wpAny_bind (wpAny_bind (wpAny_field hos hds (x := vl) rfl (wpAny_bind (wpAny_field hos hds (x := vu) rfl (wpAny_bind (wpAny_field hos hds (x := vs) rfl (wpAny_pure ?_)))))))
  refine wpAny_bind (slicePart_ ps ?_)
  show wpAny _ _ (if ((-1 : Int) == 0) = true then _ else _) _ _ s
  rw [if_neg (by decide)]
  refine wpAny_bind (slicePart_ pl (wpAny_bind (slicePart_ pu (wpAny_bind (wpAny_pure ?_)))))
  show wpAny _ _ (pure ((n : Int) - 1, (-1 : Int), Builtin.Slice.slicePlaces ((n : Int) - 1) (-1) (-1))) _ _ s
  rw [places_rev]
  exact wpAny_pure h
theorem fm_congr {α β : Type} {f g : α → Option β} : ∀ l : List α, (∀ m ∈ l, f m = g m) → l.filterMap f = l.filterMap g
  | [], _ => rfl
  | a :: l, h => by
    rw [List.filterMap_cons, List.filterMap_cons, h a List.mem_cons_self, fm_congr l fun m hm => h m (List.mem_cons_of_mem _ hm)]
theorem pick_rev (xs : Array Value) : ((List.range xs.size).filterMap fun (m : Nat) => xs[((xs.size : Int) - 1 + (m : Int) * (-1)).toNat]?).toArray = xs.toList.reverse.toArray := by
  have k := PySem.W.krv_pick xs
  unfold slicePick at k
  rw [PySem.W.krv_bounds] at k
  have k2 : ((sliceRange ((xs.size : Int) - 1) (-1) (-1)).filterMap (xs[·]?)).toArray = xs.toList.reverse.toArray := k
  rw [PySem.W.krv_sliceRange, List.filterMap_map] at k2
  rw [← k2]
  congr 1
  refine fm_congr _ ?_
  intro m hm
  have := List.mem_range.mp hm
  have e : ((xs.size : Int) - 1 + (m : Int) * (-1)).toNat = xs.size - 1 - m := by omega
  show xs[_]? = xs[xs.size - 1 - m]?
  rw [e]
theorem getItem_tuple_rev {t sl : Addr} {items : Array Value} {vl vu vs : Value} {Q : Value → Shared → Prop} (ht : IsTup s.heap t items) (hs : s.heap.IsSliceOf sl vl vu vs) (pl : IsPart vl none) (pu : IsPart vu none) (ps : IsPart vs (some (-1)))
    (h : Q (.ref s.heap.objs.size) { s with heap := s.heap.push { cls := .type "tuple", data := .seq items.toList.reverse.toArray } })
    (hsz : items.size ≤ sizeLine) : wpAny (model prog w) A (getItem (.ref t) (.ref sl)) Q E s := by
  have htake : sizeOk (.seq items.toList.reverse.toArray) := by
    show items.toList.reverse.toArray.size ≤ sizeLine
    rw [List.size_toArray, List.length_reverse, Array.length_toList]
    exact hsz
  obtain ⟨os, hos, hcs, hds⟩ := id hs
  have hTs : s.TypeIs (.ref sl) "slice" := ⟨os, hos, hcs⟩
  unfold getItem
  try with_reducible refine wpAny_holding ?_
  first | refine wpAny_bind (wpAny_pure ?_) | skip
  refine wpAny_bind (wpAny_sequenceKey ht.typeIs (by decide) ?_)
  refine wpAny_bind (wpAny_callSpecial?_slot (name := Str.ofString "__getitem__") ht.typeIs PyProof.Rows.slot_tuple_getitem
    (wpAny_call_entry PyProof.Rows.slot_tuple_getitem ht.typeIs entry_tuple_getitem ?_ (args_tuple_getitem _ _)))
  show wpAny _ _ (Builtin.Tuple.tupleItemsOf (.ref t) >>= _) _ _ s
  refine wpAny_bind (tupleItemsOf_ ht ?_)
  refine wpAny_bind (wpAny_typeOf hTs ?_)
  rw [if_pos (by decide)]
  refine wpAny_bind (sliceApplied_rev hs pl pu ps ?_)
  have hno : ¬ ((((items.size : Int) - 1 == 0) && ((-1 : Int) == 1) && (items.size == items.size)) = true) := by
    intro q
    rw [Bool.and_eq_true, Bool.and_eq_true] at q
    exact absurd (eq_of_beq q.1.2) (by decide)
  show wpAny _ _ (if (((items.size : Int) - 1 == 0) && ((-1 : Int) == 1) && (items.size == items.size)) = true then _ else _) _ _ s
  rw [if_neg hno, pick_rev]
  first
    | exact wpAny_bind (m := Builtin.Tuple.tupleExact _) (wpAny_newObj_type (wpAny_pure ⟨_, rfl, wpAny_pure h⟩) htake)
    | exact wpAny_bind (m := Builtin.Tuple.tupleExact _) (wpAny_newObj_type (wpAny_bind (wpAny_pure (wpAny_pure ⟨_, rfl, wpAny_pure h⟩))) htake)
    | exact wpAny_bind (wpAny_bind (m := Builtin.Tuple.tupleExact _) (wpAny_newObj_type (wpAny_pure (wpAny_pure ⟨_, rfl, wpAny_pure h⟩)) htake))
    | exact wpAny_bind (wpAny_bind (m := Builtin.Tuple.tupleExact _) (wpAny_newObj_type (wpAny_pure ⟨_, rfl, wpAny_pure h⟩) htake))
end
section
variable {X : Cx} {E : Ent} {W : WX} {pos p1 p2 p3 : Pos} {k : Nat} {e : Expr} {te : TE} {a : Expr} {ma : M RV}
def RvR (X : Cx) (r : V → Hp → VK → Prop) : Prop :=
  ∀ (pins : List (Addr × Obj)) (s : Shared) (σ : L2.St) (H : Hp) (x : V) (v vl vu vs : Value) (sl : Addr) (Q : VK), Inv X pins σ H s → RelV x v → s.heap.IsSliceOf sl vl vu vs → IsPart vl none → IsPart vu none → IsPart vs (some (-1)) → r x H Q →
    ∃ T id, typeLookup (.type T) "__getitem__" = Pure.pure (some (.builtin id)) ∧ s.TypeIs v T ∧ wpAny (model X.prog X.w) X.A (getItem v (.ref sl)) (EP X pins σ Q) X.xe s
theorem pe_rev {r : V → Hp → VK → Prop} (hr : RvR X r) (he : PE X e te) : PE X (.Subscript e (.Slice none none (some (.UnaryOp .USub (.Constant (.int 1) k p1) p2)) p3) pos) (fun σ H Q => te σ H fun x H1 => r x H1 Q) := by
  refine ⟨fun pins s σ H Q I h => ?_⟩
  refine Subscript_ (thn (he.run pins s σ H _ I h) fun v s1 ⟨x, H1, I1, r1, q1⟩ => ?_)
  have hst : PO X (some (.UnaryOp .USub (.Constant (.int 1) k p1) p2)) (tPart (tUn (rU fun i => .int (-i)) (tC (.int 1)))) := po_some (pe_un un_neg pe_int)
  refine wpAny_Slice (thn (po_none.run pins s1 σ H1 (fun o H2 => o = none ∧ H2 = H1) I1 ⟨rfl, rfl⟩) fun vl s2 ⟨l, H2, I2, pl, el, e2⟩ => ?_)
  subst el e2
  refine thn (po_none.run pins s2 σ H2 (fun o H3 => o = none ∧ H3 = H2) I2 ⟨rfl, rfl⟩) fun vu s3 ⟨u, H3, I3, pu, eu, e3⟩ => ?_
  subst eu e3
  refine thn (hst.run pins s3 σ H3 (fun o H4 => o = some (-1) ∧ H4 = H3) I3 ⟨1, rfl, -1, rfl, rfl, rfl⟩) fun vs s4 ⟨o, H4, I4, ps, eo, e4⟩ => ?_
  subst eo e4
  have I5 : Inv X pins σ H4 { s4 with heap := s4.heap.push { cls := .type "slice", data := .fields #[vl, vu, vs] } } := I4.kept (t' := s4.toks) fun b ob q => Heap.get?_push_of_some _ q
  obtain ⟨T, id, hT, ht, hg⟩ := hr pins { s4 with heap := s4.heap.push { cls := .type "slice", data := .fields #[vl, vu, vs] } } σ H4 x v vl vu vs s4.heap.objs.size Q I5 r1 (Heap.IsSliceOf.new ..) pl pu ps q1
  show wpAny (model X.prog X.w) X.A (subscriptTail e (.Slice none none (some (.UnaryOp .USub (.Constant (.int 1) k p1) p2)) p3) v (.ref s4.heap.objs.size)) (EP X pins σ Q) X.xe { s4 with heap := s4.heap.push { cls := .type "slice", data := .fields #[vl, vu, vs] } }
  exact tail_any (ops := [v, .ref s4.heap.objs.size]) ht hT hg (by with_unfolding_all rfl)
theorem Rvs.rev {K : PySem.W.Frag} {φ : List Addr} {I : Hp} : ∀ {ds : List D} {vs : List V}, Rvs K φ I ds vs → Rvs K φ I ds.reverse vs.reverse
  | [], _, .nil => .nil
  | d :: ds, _, .cons h1 h2 => by
    rw [List.reverse_cons, List.reverse_cons]
    exact Rvs.app (Rvs.rev h2) (.cons h1 .nil)
def rRvT (K : PySem.W.Frag) : V → Hp → VK → Prop := fun x H Q => ∃ a xs, x = .ref a ∧ SqT K H a xs ∧ ∀ p, H p = none → Q (.ref p) (upd H p (.tup xs.reverse))
def rRvL (K : PySem.W.Frag) : V → Hp → VK → Prop := fun x H Q => ∃ a xs, x = .ref a ∧ SqL K H a xs ∧ ∀ p, H p = none → Q (.ref p) (upd H p (.lst xs.reverse))
theorem rv_tup : RvR X (rRvT X.K) := by
  intro pins s σ H x v vl vu vs sl Q I rx hs pl pu ps h
  obtain ⟨a, xs, rfl, hx, q⟩ := h
  cases rx
  obtain ⟨its, r, ht, hz⟩ := I.tuple hx
  have hlen : its.toArray.size = xs.length := by rw [List.size_toArray]; exact r.length.symm
  refine ⟨"tuple", _, PyProof.Rows.slot_tuple_getitem.lookup, ht.typeIs, ?_⟩
  refine getItem_tuple_rev ht hs pl pu ps ?_ (by rw [hlen]; exact hz)
  refine ⟨.ref s.heap.objs.size, _, I.laid (t' := s.toks) (o := .tup xs.reverse) (fun b ob q => Heap.get?_push_of_some _ q) (Nat.le_refl _) ?_, rfl, q _ (I.hok.fresh (Nat.le_refl _))⟩
  exact ⟨by rw [List.length_reverse]; exact hz, _, r.reverse, IsTup.new _ _⟩
theorem rv_lst : RvR X (rRvL X.K) := by
  intro pins s σ H x v vl vu vs sl Q I rx hs pl pu ps h
  obtain ⟨a, xs, rfl, hx, q⟩ := h
  cases rx
  obtain ⟨its, r, ht, hz⟩ := I.list hx
  have hlen := r.length
  refine ⟨"list", _, PySem.slot_list_getitem.lookup, ht.isList.typeIs, ?_⟩
  refine wpAny_getItem_list_slice ht.isList hs pl pu ps (by decide) ?_ (by rw [List.size_toArray]; omega)
  rw [PySem.W.krv_pick]
  refine ⟨.ref _, _, I.laid (t' := s.toks) (o := .lst xs.reverse) (fun b ob q => Heap.get?_push_of_some _ q) (Nat.le_refl _) ?_, rfl, q _ (I.hok.fresh (Nat.le_refl _))⟩
  exact ⟨by rw [List.length_reverse]; exact hz, _, 0, r.reverse, Heap.get?_push_size _ rfl⟩
def opRev : D → Option RV
  | .lst ds => some (.ow (.ls ds.reverse))
  | .lsF ds => some (.ow (.ls ds.reverse))
  | .tup ds => some (.sh (.tup ds.reverse))
  | .tpF ds => some (.sh (.tup ds.reverse))
  | _ => none
def rdRv (K : PySem.W.Frag) (E : Ent) : V → Hp → VK → Prop := fun v H Q => ∃ σ st φ I x r, Rp K E σ H st φ I ∧ Seen K φ I H x v ∧ opRev x = some r ∧ Af K E σ H st φ I r Q
theorem rv_any : RvR X (rdRv X.K E) := fun pins s σ' H v0 v vl vu vs sl Q I0 rx hs pl pu ps ⟨σ, st, φ, I, x, r, R, hx, e, q⟩ => by
  have lists : ∀ {ds : List D}, asL x = some ds → r = .ow (.ls ds.reverse) → rRvL X.K v0 H Q := fun h1 h2 => by
    subst h2
    obtain ⟨p, vs, rfl, g1, g2⟩ := hx.asL R.ext h1
    exact ⟨p, vs, rfl, g1, q.lst R g2.rev⟩
  have tups : ∀ {ds : List D}, asT x = some ds → r = .sh (.tup ds.reverse) → rRvT X.K v0 H Q := fun h1 h2 => by
    subst h2
    obtain ⟨p, vs, rfl, g1, g2⟩ := hx.asT R.ext h1
    exact ⟨p, vs, rfl, g1, q.tup R g2.rev⟩
  cases x <;> try (simp [opRev] at e; done)
  · exact rv_tup pins s σ' H v0 v vl vu vs sl Q I0 rx hs pl pu ps (tups rfl (Option.some.inj e).symm)
  · exact rv_lst pins s σ' H v0 v vl vu vs sl Q I0 rx hs pl pu ps (lists rfl (Option.some.inj e).symm)
  · exact rv_lst pins s σ' H v0 v vl vu vs sl Q I0 rx hs pl pu ps (lists rfl (Option.some.inj e).symm)
  · exact rv_tup pins s σ' H v0 v vl vu vs sl Q I0 rx hs pl pu ps (tups rfl (Option.some.inj e).symm)
theorem sr_rev (ha : SR X E W a ma) : SR X E W (.Subscript a (.Slice none none (some (.UnaryOp .USub (.Constant (.int 1) k p1) p2)) p3) pos) (mUn opRev ma) := PEi (pe_rev rv_any (sr_bor ha)) fun σ H Q ⟨st, φ, I, R, p⟩ => by
  refine ⟨st, φ, I, R, (Po.bind p).imp fun x H1 st1 φ1 I1 S1 R1 p1 v hv _ => ?_⟩
  obtain ⟨x', r, ex, e, p4⟩ := Po.at1 p1
  exact ⟨σ, st1, φ1, I1, x', r, R1, hv.seen Stp.refl R1 ex, e, fun u H' I' S' R' hr hn => p4 H' φ1 I' S' R' u hr (Nw.far S1.there hn)⟩
end
end PM
set_option Elab.async false
set_option linter.all false
set_option maxRecDepth 100000
set_option maxHeartbeats 1200000
namespace PM
open PySem PySem.Spec L2
/-! ### runs step by step: what is next stands ahead, what comes behind it in the want -/
def At {α : Type} (o : α) (Z : α → Prop) : Prop := Z o
theorem at_ret {o : FRes} {P : RV → List Cell → Prop} (h : ∀ Z : FRes → Prop, (∀ r s, P r s → Z (.ret r s)) → At o Z) : ∃ r s, o = .ret r s ∧ P r s :=
  h (fun o => ∃ r s, o = .ret r s ∧ P r s) fun r s p => ⟨r, s, rfl, p⟩
theorem at_eq {α : Type} {o p : α} (h : ∀ Z : α → Prop, Z p → At o Z) : o = p := h (fun o => o = p) rfl
theorem at_p {α : Type} {o : α} {P : α → Prop} (h : ∀ Z : α → Prop, (∀ a, P a → Z a) → At o Z) : P o := h P fun _ p => p
/-- what holds behind a piece -/
theorem at_join {o : SOut} {K : SOut → Prop} (P : State → Prop) (h1 : ∀ Z : SOut → Prop, (∀ st, P st → Z (.nx st)) → At o Z) (h2 : ∀ st, P st → At (.nx st) K) : At o K := h1 K h2
section
variable {α β : Type} {st : State} {s : List Cell} {c : Exc} {r : RV} {d : D}
def zSq (y : MS) (Z : SOut → Prop) (o : SOut) : Prop := Z (o.sq y)
def zBd (f : α → State → Out β) (Z : Out β → Prop) (o : Out α) : Prop := Z (o.bd f)
def zTh (f : α → State → SOut) (Z : SOut → Prop) (o : Out α) : Prop := Z (o.th f)
def zTf (Z : FRes → Prop) (o : SOut) : Prop := Z (toF o)
def zOf (st : State) (Z : Out RV → Prop) (o : FRes) : Prop := Z (ofF st o)
def zLp (k : MS) (Z : SOut → Prop) (o : SOut) : Prop := Z (o.lp k)
def zTry (ys : List Str) (l : List Hnd) (Z : SOut → Prop) (o : SOut) : Prop := Z (kTry ys l o)
def zUn (i : Nat) (Z : SOut → Prop) (o : SOut) : Prop := Z (unS i o)
def zNo (Z : SOut → Prop) (o : SOut) : Prop := Z (noS o)
def zMk (i : Nat) (st : State) (Z : Out RV → Prop) (o : FRes) : Prop := Z (kMk2 i st o)
def zNx (Z : Out RV → Prop) (o : Out RV) : Prop := Z (nXo o)
@[simp] theorem at_sq {o : SOut} {y : MS} {Z : SOut → Prop} : At (o.sq y) Z = At o (zSq y Z) := rfl
@[simp] theorem at_bd {o : Out α} {f : α → State → Out β} {Z : Out β → Prop} : At (o.bd f) Z = At o (zBd f Z) := rfl
@[simp] theorem at_th {o : Out α} {f : α → State → SOut} {Z : SOut → Prop} : At (o.th f) Z = At o (zTh f Z) := rfl
@[simp] theorem at_tf {o : SOut} {Z : FRes → Prop} : At (toF o) Z = At o (zTf Z) := rfl
@[simp] theorem at_of {o : FRes} {Z : Out RV → Prop} : At (ofF st o) Z = At o (zOf st Z) := rfl
@[simp] theorem at_lp {o : SOut} {k : MS} {Z : SOut → Prop} : At (o.lp k) Z = At o (zLp k Z) := rfl
@[simp] theorem at_try {o : SOut} {ys : List Str} {l : List Hnd} {Z : SOut → Prop} : At (kTry ys l o) Z = At o (zTry ys l Z) := rfl
@[simp] theorem at_unS {o : SOut} {i : Nat} {Z : SOut → Prop} : At (unS i o) Z = At o (zUn i Z) := rfl
@[simp] theorem at_noS {o : SOut} {Z : SOut → Prop} : At (noS o) Z = At o (zNo Z) := rfl
@[simp] theorem at_mk {o : FRes} {i : Nat} {Z : Out RV → Prop} : At (kMk2 i st o) Z = At o (zMk i st Z) := rfl
@[simp] theorem at_nX {o : Out RV} {Z : Out RV → Prop} : At (nXo o) Z = At o (zNx Z) := rfl
@[simp] theorem zSq_nx {y : MS} {Z : SOut → Prop} : At (.nx st) (zSq y Z) = At (y st) Z := rfl
@[simp] theorem zSq_rt {y : MS} {Z : SOut → Prop} : At (.rt r st) (zSq y Z) = At (.rt r st) Z := rfl
@[simp] theorem zSq_bk {y : MS} {Z : SOut → Prop} : At (.bk st) (zSq y Z) = At (.bk st) Z := rfl
@[simp] theorem zSq_ct {y : MS} {Z : SOut → Prop} : At (.ct st) (zSq y Z) = At (.ct st) Z := rfl
@[simp] theorem zSq_exc {y : MS} {Z : SOut → Prop} : At (.exc c st) (zSq y Z) = At (.exc c st) Z := rfl
@[simp] theorem zBd_ok {a : α} {f : α → State → Out β} {Z : Out β → Prop} : At (.ok a st) (zBd f Z) = At (f a st) Z := rfl
@[simp] theorem zBd_exc {f : α → State → Out β} {Z : Out β → Prop} : At (.exc c st) (zBd f Z) = At (.exc c st) Z := rfl
@[simp] theorem zTh_ok {a : α} {f : α → State → SOut} {Z : SOut → Prop} : At (.ok a st) (zTh f Z) = At (f a st) Z := rfl
@[simp] theorem zTh_exc {f : α → State → SOut} {Z : SOut → Prop} : At (.exc c st) (zTh f Z) = At (.exc c st) Z := rfl
@[simp] theorem zTf_nx {Z : FRes → Prop} : At (.nx st) (zTf Z) = Z (.ret (.sh .non) st.store) := rfl
@[simp] theorem zTf_sh {Z : FRes → Prop} : At (.rt (.sh d) st) (zTf Z) = Z (.ret (.sh d) st.store) := rfl
@[simp] theorem zTf_ow {Z : FRes → Prop} {c : Cell} : At (.rt (.ow c) st) (zTf Z) = Z (.ret (.ow c) st.store) := rfl
@[simp] theorem zTf_exc {Z : FRes → Prop} : At (.exc c st) (zTf Z) = Z (.exc c st.store) := rfl
@[simp] theorem zOf_sh {Z : Out RV → Prop} : At (.ret (.sh d) s) (zOf st Z) = At (.ok (.sh d) { st with store := s }) Z := rfl
@[simp] theorem zOf_ow {Z : Out RV → Prop} {c : Cell} : At (.ret (.ow c) s) (zOf st Z) = At (.ok (.ow c) { st with store := s }) Z := rfl
@[simp] theorem zOf_exc {Z : Out RV → Prop} : At (.exc c s) (zOf st Z) = At (.exc c { st with store := s }) Z := rfl
@[simp] theorem zLp_nx {k : MS} {Z : SOut → Prop} : At (.nx st) (zLp k Z) = At (k st) Z := rfl
@[simp] theorem zLp_ct {k : MS} {Z : SOut → Prop} : At (.ct st) (zLp k Z) = At (k st) Z := rfl
@[simp] theorem zLp_bk {k : MS} {Z : SOut → Prop} : At (.bk st) (zLp k Z) = At (.nx st) Z := rfl
@[simp] theorem zLp_rt {k : MS} {Z : SOut → Prop} : At (.rt r st) (zLp k Z) = At (.rt r st) Z := rfl
@[simp] theorem zLp_exc {k : MS} {Z : SOut → Prop} : At (.exc c st) (zLp k Z) = At (.exc c st) Z := rfl
@[simp] theorem zTry_nx {ys : List Str} {l : List Hnd} {Z : SOut → Prop} : At (.nx st) (zTry ys l Z) = At (.nx st) Z := rfl
@[simp] theorem zTry_rt {ys : List Str} {l : List Hnd} {Z : SOut → Prop} : At (.rt r st) (zTry ys l Z) = At (.rt r st) Z := rfl
@[simp] theorem zTry_bk {ys : List Str} {l : List Hnd} {Z : SOut → Prop} : At (.bk st) (zTry ys l Z) = At (.bk st) Z := rfl
@[simp] theorem zTry_ct {ys : List Str} {l : List Hnd} {Z : SOut → Prop} : At (.ct st) (zTry ys l Z) = At (.ct st) Z := rfl
@[simp] theorem zTry_exc {ys : List Str} {l : List Hnd} {Z : SOut → Prop} : At (.exc c st) (zTry ys l Z) = At (runH ys l c st) Z := rfl
@[simp] theorem zUn_nx {i : Nat} {Z : SOut → Prop} : At (.nx st) (zUn i Z) = At (.nx (st.wipe [i])) Z := rfl
@[simp] theorem zUn_bk {i : Nat} {Z : SOut → Prop} : At (.bk st) (zUn i Z) = At (.bk (st.wipe [i])) Z := rfl
@[simp] theorem zUn_ct {i : Nat} {Z : SOut → Prop} : At (.ct st) (zUn i Z) = At (.ct (st.wipe [i])) Z := rfl
@[simp] theorem zUn_sh {i : Nat} {Z : SOut → Prop} : At (.rt (.sh d) st) (zUn i Z) = At (.rt (.sh d) (st.wipe [i])) Z := rfl
@[simp] theorem zUn_ow {i : Nat} {Z : SOut → Prop} {c : Cell} : At (.rt (.ow c) st) (zUn i Z) = At (.rt (.ow c) (st.wipe [i])) Z := rfl
@[simp] theorem zNo_nx {Z : SOut → Prop} : At (.nx st) (zNo Z) = At (.nx st) Z := rfl
@[simp] theorem zNo_rt {Z : SOut → Prop} : At (.rt r st) (zNo Z) = At (.rt r st) Z := rfl
@[simp] theorem zNo_bk {Z : SOut → Prop} : At (.bk st) (zNo Z) = At (.bk st) Z := rfl
@[simp] theorem zNo_ct {Z : SOut → Prop} : At (.ct st) (zNo Z) = At (.ct st) Z := rfl
@[simp] theorem zMk_n {i : Nat} {Z : Out RV → Prop} : At (.ret (.sh .non) s) (zMk i st Z) = At (.ok (.sh (.obj i)) { st with store := s }) Z := rfl
@[simp] theorem zMk_x {i : Nat} {Z : Out RV → Prop} : At (.exc c s) (zMk i st Z) = At (.exc c { st with store := s }) Z := rfl
@[simp] theorem zNx_ok {Z : Out RV → Prop} : At (.ok r st) (zNx Z) = At (.ok r st) Z := rfl
/-! loops -/
/-- one round of a for -/
def kFs (g : D → State → Option State) (x : MS) (d : D) (st : State) : SOut := match g d st with
  | some st1 => x st1
  | none => .stuck
def kFo (x : MS) (o : Option State) : SOut := match o with
  | some st1 => x st1
  | none => .stuck
@[simp] theorem kFs_e {g : D → State → Option State} {x : MS} : kFs g x d st = kFo x (g d st) := rfl
@[simp] theorem kFo_s {x : MS} : kFo x (some st) = x st := rfl
theorem at_forB {g : D → State → Option State} {x : MS} (J : Nat → State → Prop) (B : State → Prop) (R : RV → State → Prop) : ∀ (ds : List D) (k : Nat) (st : State) {K : SOut → Prop}, J k st →
    (∀ j st d, ds[j]? = some d → J (k + j) st → ∀ Z : SOut → Prop, (∀ st', J (k + j + 1) st' → Z (.nx st')) → (∀ st', J (k + j + 1) st' → Z (.ct st')) → (∀ st', B st' → Z (.bk st')) → (∀ r st', R r st' → Z (.rt r st')) → At (kFs g x d st) Z) →
    (∀ st', J (k + ds.length) st' → At (.nx st') K) → (∀ st', B st' → At (.nx st') K) → (∀ r st', R r st' → At (.rt r st') K) → At (mForL g x ds st) K
  | [], k, st, K, h, _, hk, _, _ => hk st h
  | d :: ds, k, st, K, h, hs, hk, hb, hr => by
    have rest : ∀ st', J (k + 1) st' → At (mForL g x ds st') K := fun st' h' => at_forB J B R ds (k + 1) st' h' (fun j st d' hd hJ => by
      have := hs (j + 1) st d' (by simpa using hd) (by rw [show k + (j + 1) = k + 1 + j by omega]; exact hJ)
      rwa [show k + (j + 1) + 1 = k + 1 + j + 1 by omega] at this) (fun st' hJ => hk st' (by rw [List.length_cons, show k + (ds.length + 1) = k + 1 + ds.length by omega]; exact hJ)) hb hr
    have e : mForL g x (d :: ds) st = (kFs g x d st).lp (mForL g x ds) := by
      rw [r_fors]
      cases e : g d st <;> simp [kFb, kFs, kFo, e]
    rw [e, at_lp]
    exact hs 0 st d rfl h _ rest rest hb hr
theorem at_for {g : D → State → Option State} {x : MS} {ds : List D} {st : State} {K : SOut → Prop} (J : Nat → State → Prop) (h : J 0 st)
    (hs : ∀ j st d, ds[j]? = some d → J j st → ∀ Z : SOut → Prop, (∀ st', J (j + 1) st' → Z (.nx st')) → (∀ st', J (j + 1) st' → Z (.ct st')) → At (kFs g x d st) Z)
    (hk : ∀ st', J ds.length st' → At (.nx st') K) : At (mForL g x ds st) K :=
  at_forB J (fun _ => False) (fun _ _ => False) ds 0 st h (fun j st d hd hJ Z h1 h2 _ _ => by rw [Nat.zero_add] at *; exact hs j st d hd hJ Z h1 h2) (fun st' h => hk st' (by rwa [Nat.zero_add] at h)) (fun _ h => h.elim) (fun _ _ h => h.elim)
/-- one round of a while: at its end it breaks -/
def kWs (x : MS) (k : Bool) (st : State) : SOut := if k then x st else .bk st
@[simp] theorem kWs_t {x : MS} : kWs x true st = x st := rfl
@[simp] theorem kWs_f {x : MS} : kWs x false st = .bk st := rfl
theorem at_whileB {t : M Bool} {x : MS} (J : State → Prop) (μ : State → Nat) (E : State → Prop) (R : RV → State → Prop)
    (hs : ∀ st, J st → ∀ Z : SOut → Prop, (∀ st', J st' → μ st' < μ st → Z (.nx st')) → (∀ st', J st' → μ st' < μ st → Z (.ct st')) → (∀ st', E st' → Z (.bk st')) → (∀ r st', R r st' → Z (.rt r st')) → At (t st) (zTh (kWs x) Z)) :
    ∀ (n : Nat) (st : State) {K : SOut → Prop}, J st → μ st < n → (∀ st', E st' → At (.nx st') K) → (∀ r st', R r st' → At (.rt r st') K) → At (mWhileN n t x st) K
  | 0, st, K, _, h, _, _ => by omega
  | n + 1, st, K, h, hm, hk, hr => by
    have e : mWhileN (n + 1) t x st = ((t st).th (kWs x)).lp (mWhileN n t x) := by
      rw [r_whiles]
      cases t st with
      | ok k st1 => cases k <;> simp [kW, kWs]
      | exc c st1 => rfl
      | stuck => rfl
    rw [e, at_lp, at_th]
    exact hs st h _ (fun st' h1 h2 => at_whileB J μ E R hs n st' h1 (by omega) hk hr) (fun st' h1 h2 => at_whileB J μ E R hs n st' h1 (by omega) hk hr) hk hr
theorem at_while {t : M Bool} {x : MS} {n : Nat} {st : State} {K : SOut → Prop} (J : State → Prop) (μ : State → Nat) (E : State → Prop) (h : J st) (hn : μ st < n)
    (hs : ∀ st, J st → ∀ Z : SOut → Prop, (∀ st', J st' → μ st' < μ st → Z (.nx st')) → (∀ st', E st' → Z (.bk st')) → At (t st) (zTh (kWs x) Z))
    (hk : ∀ st', E st' → At (.nx st') K) : At (mWhileN n t x st) K :=
  at_whileB J μ E (fun _ _ => False) (fun st h Z h1 _ h3 _ => hs st h Z h1 h3) n st h hn hk fun _ _ h => h.elim
/-- one round of a comprehension -/
def kCe2 (d : D) (st : State) : Out (Option D) := .ok (some d) st
def kCe1 (r : RV) (st : State) : Out (Option D) := (RV.frz r st).bd kCe2
def kCe (e : M RV) (k : Bool) (st : State) : Out (Option D) := if k then (e st).bd kCe1 else .ok none st
@[simp] theorem kCe2_e : kCe2 d st = .ok (some d) st := rfl
@[simp] theorem kCe1_e : kCe1 r st = (RV.frz r st).bd kCe2 := rfl
@[simp] theorem kCe_t {e : M RV} : kCe e true st = (e st).bd kCe1 := rfl
@[simp] theorem kCe_f {e : M RV} : kCe e false st = .ok none st := rfl
def kCs (t : M Bool) (e : M RV) (o : Option State) : Out (Option D) := match o with
  | some st1 => (t st1).bd (kCe e)
  | none => .stuck
@[simp] theorem kCs_s {t : M Bool} {e : M RV} : kCs t e (some st) = (t st).bd (kCe e) := rfl
theorem at_compL {own : List Nat} {g : D → State → Option State} {t : M Bool} {e : M RV} {env0 : List Slot} (hw : wipeE env0 own = env0) (J : Nat → List Cell → List D → Prop) : ∀ (ds : List D) (k : Nat) (acc : List D) (store : List Cell) {K : Out (List D) → Prop}, J k store acc → acc.length + ds.length ≤ lim →
    (∀ j s acc d, ds[j]? = some d → J (k + j) s acc → ∀ Z : Out (Option D) → Prop, (∀ y env3 s', wipeE env3 own = env0 → J (k + j + 1) s' (acc ++ [y]) → Z (.ok (some y) ⟨env3, s'⟩)) → (∀ env3 s', wipeE env3 own = env0 → J (k + j + 1) s' acc → Z (.ok none ⟨env3, s'⟩)) → At (kCs t e (g d ⟨env0, s⟩)) Z) →
    (∀ s' xs, J (k + ds.length) s' xs → At (.ok xs ⟨env0, s'⟩) K) → At (mCompL own g t e ds acc ⟨env0, store⟩) K
  | [], k, acc, store, K, h, _, _, hk => hk _ _ h
  | d :: ds, k, acc, store, K, h, hl, hs, hk => by
    have hl' : acc.length + (ds.length + 1) ≤ lim := hl
    have rest : ∀ s' acc', acc'.length ≤ acc.length + 1 → J (k + 1) s' acc' → At (mCompL own g t e ds acc' ⟨env0, s'⟩) K := fun s' acc' ha h' => at_compL hw J ds (k + 1) acc' s' h' (by omega) (fun j s acc d' hd hJ => by
      have := hs (j + 1) s acc d' (by simpa using hd) (by rw [show k + (j + 1) = k + 1 + j by omega]; exact hJ)
      rwa [show k + (j + 1) + 1 = k + 1 + j + 1 by omega] at this) (fun s' xs hJ => hk s' xs (by rw [List.length_cons, show k + (ds.length + 1) = k + 1 + ds.length by omega]; exact hJ))
    let G : Out (Option D) → Out (List D) := fun o => match o with
      | .ok (some y) st3 => if acc.length < lim then mCompL own g t e ds (acc ++ [y]) (st3.wipe own) else .stuck
      | .ok none st3 => mCompL own g t e ds acc (st3.wipe own)
      | _ => .stuck
    have e1 : mCompL own g t e (d :: ds) acc ⟨env0, store⟩ = G (kCs t e (g d ⟨env0, store⟩)) := by
      simp only [mCompL, wipe_e, hw, kCs, G]
      cases g d ⟨env0, store⟩ with
      | none => rfl
      | some st1 =>
        simp only
        cases h2 : t st1 with
        | ok k st2 =>
          cases k with
          | false => simp [kCe, Out.bd]
          | true =>
            have e3 : M.frz e st2 = (e st2).bd RV.frz := r_frz
            simp only [kCe, Out.bd, e3, if_true]
            cases h4 : e st2 with
            | ok r st3 =>
              simp only [Out.bd, kCe1]
              cases h5 : RV.frz r st3 <;> simp [Out.bd, kCe2]
            | exc c st3 => simp [Out.bd]
            | stuck => simp [Out.bd]
        | exc c st2 => rfl
        | stuck => rfl
    rw [e1]
    refine hs 0 store acc d rfl h (fun o => K (G o)) (fun y env3 s' hw3 hJ => ?_) (fun env3 s' hw3 hJ => ?_)
    · show K (if acc.length < lim then mCompL own g t e ds (acc ++ [y]) (State.wipe ⟨env3, s'⟩ own) else .stuck)
      rw [if_pos (by omega), wipe_e, hw3]
      exact rest s' _ (by simp) hJ
    · show K (mCompL own g t e ds acc (State.wipe ⟨env3, s'⟩ own))
      rw [wipe_e, hw3]
      exact rest s' _ (by omega) hJ
theorem at_co {own : List Nat} {g : D → State → Option State} {t : M Bool} {e : M RV} {env : List Slot} {store : List Cell} {ds : List D} {K : Out RV → Prop} (env0 : List Slot) (J : Nat → List Cell → List D → Prop) (hw0 : wipeE env own = env0) (hw : wipeE env0 own = env0) (h : J 0 store []) (hl : ds.length ≤ lim)
    (hs : ∀ j s acc d, ds[j]? = some d → J j s acc → ∀ Z : Out (Option D) → Prop, (∀ y env3 s', wipeE env3 own = env0 → J (j + 1) s' (acc ++ [y]) → Z (.ok (some y) ⟨env3, s'⟩)) → (∀ env3 s', wipeE env3 own = env0 → J (j + 1) s' acc → Z (.ok none ⟨env3, s'⟩)) → At (kCs t e (g d ⟨env0, s⟩)) Z)
    (hk : ∀ s' xs, J ds.length s' xs → At (.ok (.ow (.ls xs)) ⟨env0, s'⟩) K) : At (kCo own g t e ds ⟨env, store⟩) K := by
  rw [kCo_e, wipe_e, hw0]
  refine at_compL (K := fun o => K (kCo2 o)) hw J ds 0 [] store h (by simpa using hl) (fun j s acc d hd hJ => ?_) (fun s' xs hJ => ?_)
  · rw [Nat.zero_add] at *
    exact hs j s acc d hd hJ
  · rw [Nat.zero_add] at hJ
    exact hk s' xs hJ
end
end PM
set_option Elab.async false
set_option linter.all false
set_option maxRecDepth 100000
set_option maxHeartbeats 1200000
namespace PM
open PySem PySem.Spec L2
/-! ### {k: v for x in xs if t} -/
def mDCL (own : List Nat) (g : D → State → Option State) (t : M Bool) (ek ev : M RV) : List D → List (Key × D) → M (List (Key × D))
  | [], acc => M.pure acc
  | d :: ds, acc => fun st => match g d (st.wipe own) with
    | none => .stuck
    | some st1 => match t st1 with
      | .ok true st2 => match ek.frz st2 with
        | .ok x st3 => match ev.frz st3 with
          | .ok y st4 => match asKey x with
            | some k => if acc.length < lim then mDCL own g t ek ev ds (dput acc k y) (st4.wipe own) else .stuck
            | none => .stuck
          | _ => .stuck
        | _ => .stuck
      | .ok false st2 => mDCL own g t ek ev ds acc (st2.wipe own)
      | _ => .stuck
def mDComp (own : List Nat) (it : M (List D)) (g : D → State → Option State) (t : M Bool) (ek ev : M RV) : M RV := it.bind fun ds st => match mDCL own g t ek ev ds [] (st.wipe own) with
  | .ok xs st' => .ok (.ow (.dc xs)) st'
  | _ => .stuck
end PM
set_option Elab.async false
set_option linter.all false
set_option maxRecDepth 100000
set_option maxHeartbeats 1200000
namespace PM
open PySem PySem.Spec L2
/-! ### texts by their signs -/
def tx (l : List Nat) : Str := ⟨l.toArray⟩
@[simp] theorem tx_l (l : List Nat) : (tx l).cps.toList = l := rfl
@[simp] theorem tx_len (l : List Nat) : (tx l).length = l.length := by simp [tx, Str.length]
@[simp] theorem tx_cat (a b : List Nat) : tx a ++ tx b = tx (a ++ b) := TL.ext_tl (TL.tl_append (tx a) (tx b))
theorem tx_inj {a b : List Nat} (h : tx a = tx b) : a = b := congrArg (fun x : Str => x.cps.toList) h
theorem cut_tx (l : List Nat) (lo hi : Option Int) : cutS (tx l) lo hi = tx (cut l lo hi) := by
  show (⟨(((tx l).cps.toList.drop (HT.sIx (tx l).length 0 lo)).take (HT.sIx (tx l).length (tx l).length hi - HT.sIx (tx l).length 0 lo)).toArray⟩ : Str) = _
  rw [tx_len]
  rfl
theorem cut_to {α : Type} (l : List α) (k : Nat) : cut l none (some (k : Int)) = l.take k := by
  unfold cut
  rw [HT.sIx_none, HT.sIx_nat, List.drop_zero, Nat.sub_zero]
  by_cases h : k ≤ l.length
  · rw [Nat.min_eq_left h]
  · rw [Nat.min_eq_right (by omega), List.take_of_length_le (Nat.le_refl _), List.take_of_length_le (by omega)]
theorem cut_from {α : Type} (l : List α) (k : Nat) : cut l (some (k : Int)) none = l.drop k := by
  unfold cut
  rw [HT.sIx_none, HT.sIx_nat]
  by_cases h : k ≤ l.length
  · rw [Nat.min_eq_left h, List.take_of_length_le (by rw [List.length_drop]; exact Nat.le_refl _)]
  · rw [Nat.min_eq_right (by omega), List.drop_eq_nil_of_le (Nat.le_refl _), List.drop_eq_nil_of_le (by omega), List.take_nil]
@[simp] theorem opSl_tx {l : List Nat} {lo hi : Option Int} (h : l.length ≤ lim) : opSl (.str (tx l)) lo hi = some (.sh (.str (tx (cut l lo hi)))) := by
  show (if (tx l).length ≤ lim then some (RV.sh (.str (cutS (tx l) lo hi))) else none) = _
  rw [tx_len, if_pos h, cut_tx]
@[simp] theorem opLen_tx {l : List Nat} (h : l.length ≤ lim) : opLen (.str (tx l)) = some (.sh (.int (l.length : Nat))) := by
  simp [opLen, h]
@[simp] theorem opAdd_tx {a b : List Nat} (h : a.length + b.length ≤ lim) : opAdd (.str (tx a)) (.str (tx b)) = some (.sh (.str (tx (a ++ b)))) := by
  simp [opAdd, h]
@[simp] theorem beq_tx {a b : List Nat} : (tx a == tx b) = decide (a = b) := by
  by_cases h : a = b
  · subst h; simp
  · rw [decide_eq_false h]
    exact beq_false_of_ne fun z => h (tx_inj z)
/-! ### digits -/
end PM
set_option Elab.async false
set_option linter.all false
set_option maxRecDepth 100000
set_option maxHeartbeats 1200000
namespace PM
open PySem PySem.Spec L2
open PyProof.Rows (sortedS risingS)
/-! ### sorted texts -/
/-- the order of texts -/
def leT (a b : Str) : Bool := !decide (b.cps.toList < a.cps.toList)
def sortS (xs : List Str) : List Str := xs.mergeSort leT
theorem sortS_perm (xs : List Str) : (sortS xs).Perm xs := List.mergeSort_perm xs leT
end PM
set_option Elab.async false
set_option linter.all false
set_option maxRecDepth 100000
set_option maxHeartbeats 1200000
namespace PM
open PySem PySem.Spec L2
/-! ### sep.join(texts) -/
/-! ### a list, a tuple, a text, so many times -/
end PM
set_option Elab.async false
set_option linter.all false
set_option maxRecDepth 100000
set_option maxHeartbeats 1200000
namespace PM
open PySem PySem.Spec L2
/-! ### dict(pairs) -/
theorem Af.dc {K : PySem.W.Frag} {E : Ent} {σ : L2.St} {H : Hp} {st : State} {φ : List Addr} {I : Hp} {kvs : List (Key × D)} {us : List (Key × V)} {Q : VK} (h : Af K E σ H st φ I (.ow (.dc kvs)) Q) (R : Rp K E σ H st φ I) (h1 : us.map (·.1) = kvs.map (·.1)) (h2 : Rvs K φ I (kvs.map (·.2)) (us.map (·.2))) : ∀ p, H p = none → Q (.ref p) (upd H p (.dK us)) := fun p hp => by
  obtain ⟨R2, S2⟩ := R.laidO hp (.dK us)
  obtain ⟨h0, hφ, hI, ho⟩ := R.fresh hp
  exact h _ _ _ S2 R2 ⟨p, rfl, ⟨_, upd_same, hI, .dc h1 h2⟩, hφ, h0, ho⟩ fun a c _ e => by cases e; exact hp
end PM
set_option Elab.async false
set_option linter.all false
set_option maxRecDepth 100000
set_option maxHeartbeats 1200000
namespace PM
open PySem PySem.Spec L2
/-! ### {**d, k: v}: the model's part -/
/-! ### .. its rule -/
/-- {**a, k: v} -/
def mDStar (a k v : M RV) : M RV := a.frz.bind fun d => match d with
  | .dct kvs => if kvs.length ≤ lim then k.frz.bind fun kd => v.frz.bind fun vd => (match asKey kd with
    | some key => M.pure (.ow (.dc (dput (mergeD [] kvs) key vd)))
    | none => M.stuck) else M.stuck
  | _ => M.stuck
section
variable {K : PySem.W.Frag} {E : Ent} {σ : L2.St} {H H' : Hp} {st st' : State} {φ φ' : List Addr} {I I' : Hp}
/-- nobody knows of what stands at q -/
structure Junk (E : Ent) (σ : L2.St) (st : State) (φ : List Addr) (I : Hp) (q : Addr) : Prop where
  i : I q = none
  f : q ∉ φ
  h0 : E.H0 q = none
  o : ∀ i, ¬ Owns st.env σ i q
theorem Junk.step {q : Addr} {o : HO} (j : Junk E σ st φ I q) (S : Stp σ H st φ I H' st' φ' I') (e : H q = some o) : Junk E σ st' φ' I' q ∧ H' q = some o := by
  refine ⟨⟨?_, fun z => ?_, j.h0, fun i z => j.o i (S.ow i q z)⟩, S.fr q o e j.f j.o⟩
  · cases z : I' q with
    | none => rfl
    | some u =>
      rcases S.inf q (by rw [z]; simp) j.i with y | y | ⟨i, y⟩
      · rw [e] at y; cases y
      · exact absurd y j.f
      · exact absurd y (j.o i)
  · have := S.nf q z j.f
    rw [e] at this
    cases this
theorem Junk.new {q : Addr} (R : Rp K E σ H st φ I) (h : H q = none) : Junk E σ st φ I q := by
  obtain ⟨h0, hφ, hI, ho⟩ := R.fresh h
  exact ⟨hI, hφ, h0, ho⟩
end
end PM
set_option Elab.async false
set_option linter.all false
set_option maxRecDepth 100000
set_option maxHeartbeats 1200000
namespace PM
open PySem PySem.Spec L2
/-! ### a dict of dicts that were in the store: none of them is written any more -/
theorem nodup_at {α : Type} : ∀ {l : List α} {i j : Nat} {a : α}, l.Nodup → l[i]? = some a → l[j]? = some a → i = j
  | [], i, j, a, _, h, _ => by simp at h
  | x :: l, 0, 0, a, _, _, _ => rfl
  | x :: l, 0, j + 1, a, n, h, k => by
    simp only [List.getElem?_cons_zero, Option.some.injEq, List.getElem?_cons_succ] at h k
    subst h
    exact absurd (List.mem_of_getElem? k) (List.nodup_cons.mp n).1
  | x :: l, i + 1, 0, a, n, h, k => by
    simp only [List.getElem?_cons_zero, Option.some.injEq, List.getElem?_cons_succ] at h k
    subst k
    exact absurd (List.mem_of_getElem? h) (List.nodup_cons.mp n).1
  | x :: l, i + 1, j + 1, a, n, h, k => by
    simp only [List.getElem?_cons_succ] at h k
    rw [nodup_at (List.nodup_cons.mp n).2 h k]
def sealK : List (Key × D) → List Cell → Option (List (Key × D) × List Cell)
  | [], s => some ([], s)
  | (k, .obj n) :: r, s => match s[n]? with
    | some (.dc us) => (sealK r (s.set n .dead)).map fun x => ((k, .dct us) :: x.1, x.2)
    | _ => none
  | kd :: r, s => (sealK r s).map fun x => (kd :: x.1, x.2)
def mSeal (m : M RV) : M RV := m.frz.bind fun d st => match d with
  | .dct kvs => match sealK kvs st.store with
    | some x => .ok (.sh (.dct x.1)) { st with store := x.2 }
    | none => .stuck
  | _ => .stuck
/-! evaluation -/
end PM
set_option Elab.async false
set_option linter.all false
set_option maxRecDepth 100000
set_option maxHeartbeats 2000000
namespace PM
open PySem PySem.Spec PyProof.Rows L2
/-! ### {e for x in xs if t}, e a text or an int; looked at by len alone -/
/-! the run -/
def hasK (acc : List Key) (k : Key) : Bool := acc.any fun j => decide (k = j)
def sadd (acc : List Key) (k : Key) : List Key := if hasK acc k then acc else acc ++ [k]
def mSCL (own : List Nat) (g : D → State → Option State) (t : M Bool) (ek : M RV) : List D → List Key → M (List Key)
  | [], acc => M.pure acc
  | d :: ds, acc => fun st => match g d (st.wipe own) with
    | none => .stuck
    | some st1 => match t st1 with
      | .ok true st2 => match ek.frz st2 with
        | .ok x st3 => match asKey x with
          | some k => if acc.length < 4095 then mSCL own g t ek ds (sadd acc k) (st3.wipe own) else .stuck
          | none => .stuck
        | _ => .stuck
      | .ok false st2 => mSCL own g t ek ds acc (st2.wipe own)
      | _ => .stuck
def mSLen (own : List Nat) (it : M (List D)) (g : D → State → Option State) (t : M Bool) (ek : M RV) : M RV := it.bind fun ds st => match mSCL own g t ek ds [] (st.wipe own) with
  | .ok xs st' => .ok (.sh (.int xs.length)) st'
  | _ => .stuck
end PM
set_option Elab.async false
set_option linter.all false
set_option maxRecDepth 100000
set_option maxHeartbeats 1200000
namespace PM
open PySem PySem.Spec L2
open PyProof.Rows (tuples' seqObj sortedAll_at sortedAll_old lexLt itemOrd tupItems tupKey tupKind TupsOf TupOf)
/-! ### sorted tuples of texts and ints -/
def itm : Key → Int ⊕ List Nat
  | .inl i => .inl i
  | .inr s => .inr s.cps.toList
/-- a tuple of the heap with these items -/
def HasT (h : Heap) (sh : Nat → Bool) (v : Value) (ks : List Key) : Prop := ∃ t o its n, v = .ref t ∧ h.get? t = some o ∧ o.cls = .type "tuple" ∧ o.data = .seq its n ∧ tupItems sh 0 its.toList = some (ks.map itm) ∧ ks ≠ []
theorem HasT.key {h : Heap} {sh : Nat → Bool} {v : Value} {ks : List Key} (x : HasT h sh v ks) : tupKey h sh v = some (ks.map itm) := by
  obtain ⟨t, o, its, n, rfl, ho, _, hd, hi, _⟩ := x
  simp only [tupKey, ho, hd, hi]
theorem HasT.tup {h : Heap} {sh : Nat → Bool} {v : Value} {ks : List Key} (x : HasT h sh v ks) : ∃ f, TupOf h sh v f := by
  obtain ⟨t, o, its, n, rfl, ho, hc, hd, hi, hne⟩ := x
  obtain ⟨its⟩ := its
  cases its with
  | nil =>
    cases ks with
    | nil => exact absurd rfl hne
    | cons k ks => simp [tupItems] at hi
  | cons f r =>
    refine ⟨f, t, o, _, n, rfl, ho, hc, hd, by simp, fun hs => ?_, fun hs => ?_⟩
    · obtain ⟨m, u, _, e, _⟩ := PyProof.Rows.tupItems_int hs hi
      exact ⟨m, u, e⟩
    · obtain ⟨m, u, _, e, _⟩ := PyProof.Rows.tupItems_str hs hi
      exact ⟨m, u, e⟩
theorem HasT.keeps {h h' : Heap} {sh : Nat → Bool} {v : Value} {ks : List Key} (x : HasT h sh v ks) (k : ∀ b o, h.get? b = some o → o.cls = .type "tuple" → h'.get? b = some o) : HasT h' sh v ks := by
  obtain ⟨t, o, its, n, e, ho, hc, r⟩ := x
  exact ⟨t, o, its, n, e, k t o ho hc, hc, r⟩
end PM
set_option Elab.async false
set_option linter.all false
set_option maxRecDepth 100000
set_option maxHeartbeats 1200000
namespace PM
open PySem PySem.Spec L2
/-! ### sum of a list of ints -/
end PM
set_option Elab.async false
set_option linter.all false
set_option maxRecDepth 100000
set_option maxHeartbeats 1200000
namespace PM
open PySem PySem.Spec L2
/-! ### more rules for reckoning -/
section
variable {st : State} {m a b c : M RV} {ml : M (List D)} {own : List Nat} {g : D → State → Option State} {e : M RV}
@[simp] theorem opLen_l {ds : List D} : opLen (.lst ds) = some (.sh (.int ds.length)) := rfl
@[simp] theorem opLen_t {ds : List D} : opLen (.tup ds) = some (.sh (.int ds.length)) := rfl
@[simp] theorem opLen_lF {ds : List D} : opLen (.lsF ds) = some (.sh (.int ds.length)) := rfl
@[simp] theorem opLen_tF {ds : List D} : opLen (.tpF ds) = some (.sh (.int ds.length)) := rfl
@[simp] theorem opLen_d {ds : List (Key × D)} : opLen (.dct ds) = some (.sh (.int ds.length)) := rfl
@[simp] theorem opTuple_l {ds : List D} : opTuple (.lst ds) = some (.sh (.tup ds)) := rfl
@[simp] theorem opTuple_t {ds : List D} : opTuple (.tup ds) = some (.sh (.tup ds)) := rfl
@[simp] theorem opTuple_lF {ds : List D} : opTuple (.lsF ds) = some (.sh (.tup ds)) := rfl
@[simp] theorem opList_l {ds : List D} : opList (.lst ds) = some (.ow (.ls ds)) := rfl
@[simp] theorem is2_nn : opIs2 .non .non = some true := rfl
@[simp] theorem is2_tn {ds : List D} : opIs2 (.tup ds) .non = some false := rfl
@[simp] theorem is2_in {i : Int} : opIs2 (.int i) .non = some false := rfl
@[simp] theorem is2_sn {i : Str} : opIs2 (.str i) .non = some false := rfl
@[simp] theorem is2_bb {x y : Bool} : opIs2 (.bl x) (.bl y) = some (decide (x = y)) := rfl
@[simp] theorem isn2_nn : opIsNot2 .non .non = some false := rfl
@[simp] theorem isn2_tn {ds : List D} : opIsNot2 (.tup ds) .non = some true := rfl
@[simp] theorem isn2_in {i : Int} : opIsNot2 (.int i) .non = some true := rfl
@[simp] theorem isn2_bb {x y : Bool} : opIsNot2 (.bl x) (.bl y) = some (!decide (x = y)) := rfl
@[simp] theorem isi_tt {ds : List D} : opIsi (.tup ds) (.val (.ty "tuple")) = some (.sh (.bl true)) := by simp [opIsi, opKind]; decide +kernel
@[simp] theorem isi_lt {ds : List D} : opIsi (.lst ds) (.val (.ty "tuple")) = some (.sh (.bl false)) := by simp [opIsi, opKind]; decide +kernel
@[simp] theorem isi_ii {i : Int} : opIsi (.int i) (.val (.ty "int")) = some (.sh (.bl true)) := by simp [opIsi, opKind]; decide +kernel
@[simp] theorem isi_ib {i : Int} : opIsi (.int i) (.val (.ty "bool")) = some (.sh (.bl false)) := by simp [opIsi, opKind]; decide +kernel
/-! append, extend, pop .. -/
def kMu3 (f : List D → List D → Option (D × List D)) (r : RV) (ds : List D) (st : State) : Out RV := match upC (lsC f ds) r st with
  | some (d, st') => .ok (.sh d) st'
  | none => .stuck
def kMu2 (f : List D → List D → Option (D × List D)) (ml : M (List D)) (r : RV) (u : Unit) (st : State) : Out RV := (ml st).bd (kMu3 f r)
def kMu (f : List D → List D → Option (D × List D)) (ml : M (List D)) (r : RV) (st : State) : Out RV := (Out.opt (on1 isLs (view st r.bor)) st).bd (kMu2 f ml r.bor)
@[simp] theorem kMu2_e {f : List D → List D → Option (D × List D)} {r : RV} {u : Unit} : kMu2 f ml r u st = (ml st).bd (kMu3 f r) := rfl
@[simp] theorem kMu_e {f : List D → List D → Option (D × List D)} {r : RV} : kMu f ml r st = (Out.opt (on1 isLs (view st r.bor)) st).bd (kMu2 f ml r.bor) := rfl
@[simp] theorem isLs_e {ds : List D} : isLs (.lst ds) = some () := rfl
theorem r_mut' {f : List D → List D → Option (D × List D)} {r : RV} : ((at1 isLs r).bind fun _ => ml.bind (kMu3 f r)) st = (Out.opt (on1 isLs (view st r)) st).bd (kMu2 f ml r) := by
  show M.bind _ _ st = _
  rw [r_bind, r_at1]
  cases Out.opt (on1 isLs (view st r)) st <;> rfl
@[simp] theorem r_mut {f : List D → List D → Option (D × List D)} : mMut f a ml st = (a st).bd (kMu f ml) := by
  refine Eq.trans (r_b1 (a := a) (st := st) (G := fun r => ((at1 isLs r).bind fun _ => ml.bind (kMu3 f r)))) ?_
  cases a st with
  | ok r st1 => exact r_mut'
  | exc => rfl
  | stuck => rfl
theorem mu_lo {f : List D → List D → Option (D × List D)} {i : Nat} {ds es ds' : List D} {d : D} (h : st.env[i]? = some (.ow (.ls ds))) (hf : f ds es = some (d, ds')) : kMu3 f (.lo i) es st = .ok (.sh d) { st with env := st.env.set i (.ow (.ls ds')) } := by
  simp only [kMu3, upC, h, lsC, hf]
  rfl
theorem fApp_e {ds : List D} {d : D} (h : ds.length < lim) : fApp ds [d] = some (.non, ds ++ [d]) := if_pos h
@[simp] theorem isi_l2 {ds : List D} : opIsi (.lst ds) (.tup [.val (.ty "list"), .val (.ty "tuple")]) = some (.sh (.bl true)) := by simp [opIsi, opKind, tysOf]; decide +kernel
@[simp] theorem isi_t2 {ds : List D} : opIsi (.tup ds) (.tup [.val (.ty "list"), .val (.ty "tuple")]) = some (.sh (.bl true)) := by simp [opIsi, opKind, tysOf]; decide +kernel
@[simp] theorem isXG_r {tx tab : IsiT} {bs : List Str} {C : Str} {fs : List (Str × D)} {s : RV} : isXG tx tab bs (.sh (.rcd C fs)) s st = isG tab bs (.sh (.rcd C fs)) s st := rfl
@[simp] theorem bd_okB {r : RV} : (Out.ok r st).bd okB = okB r st := rfl
@[simp] theorem r_gTL {n : Nat} {r : List D → State → Option State} {ds : List D} : gTL n r (.lst ds) st = if ds.length = n then r ds st else none := rfl
end
end PM
set_option Elab.async false
set_option linter.all false
set_option maxRecDepth 100000
set_option maxHeartbeats 1200000
namespace PM
open PySem PySem.Spec L2
/-! ### how the newer runs are reckoned -/
section
variable {α β : Type} {st : State} {m a k v : M RV} {own : List Nat} {g : D → State → Option State} {t : M Bool} {ek ev : M RV}
theorem bd_bd' {γ : Type} (o : Out α) (f : α → State → Out β) (h : β → State → Out γ) : (o.bd f).bd h = o.bd fun a st => (f a st).bd h := by cases o <;> rfl
/-! sealing -/
def kSl2 (d : D) (st : State) : Out RV := match d with
  | .dct kvs => match sealK kvs st.store with
    | some x => .ok (.sh (.dct x.1)) { st with store := x.2 }
    | none => .stuck
  | _ => .stuck
def kSl (r : RV) (st : State) : Out RV := (RV.frz r st).bd kSl2
@[simp] theorem kSl_e {r : RV} : kSl r st = (RV.frz r st).bd kSl2 := rfl
theorem frz_bd {β : Type} {f : D → M β} : (m.frz.bind f) st = (m st).bd fun r st1 => (RV.frz r st1).bd f := by
  have h1 : m.frz st = (m st).bd RV.frz := r_frz
  have h2 : (m.frz.bind f) st = (m.frz st).bd f := r_bind
  exact h2.trans ((congrArg (fun o => Out.bd o f) h1).trans (bd_bd' (m st) RV.frz f))
@[simp] theorem r_seal' : mSeal m st = (m st).bd kSl := frz_bd
/-! items -/
def kItI2 (d : D) (st : State) : Out (List D) := match d with
  | .dct kvs => .ok (pairI kvs) st
  | _ => .stuck
def kItI (r : RV) (st : State) : Out (List D) := (RV.frz r st).bd kItI2
@[simp] theorem kItI2_e {kvs : List (Key × D)} : kItI2 (.dct kvs) st = .ok (pairI kvs) st := rfl
@[simp] theorem kItI_e {r : RV} : kItI r st = (RV.frz r st).bd kItI2 := rfl
@[simp] theorem r_itI : mItI m st = (m st).bd kItI := by
  have e : (fun d => (match d with
    | .dct kvs => M.pure (pairI kvs)
    | _ => M.stuck : M (List D))) = kItI2 := by
    funext d st
    cases d <;> rfl
  refine (frz_bd (f := fun d => (match d with
    | .dct kvs => M.pure (pairI kvs)
    | _ => M.stuck : M (List D)))).trans ?_
  show (m st).bd (fun r st1 => (RV.frz r st1).bd (fun d => (match d with
    | .dct kvs => M.pure (pairI kvs)
    | _ => M.stuck : M (List D)))) = (m st).bd fun r st1 => (RV.frz r st1).bd kItI2
  exact congrArg (fun z : D → State → Out (List D) => (m st).bd fun r st1 => (RV.frz r st1).bd z) e
/-! {**d, k: v} -/
def kDs5 (kvs : List (Key × D)) (kd vd : D) (st : State) : Out RV := match asKey kd with
  | some key => .ok (.ow (.dc (dput (mergeD [] kvs) key vd))) st
  | none => .stuck
def kDs4 (kvs : List (Key × D)) (kd : D) (r : RV) (st : State) : Out RV := (RV.frz r st).bd (kDs5 kvs kd)
def kDs3 (v : M RV) (kvs : List (Key × D)) (kd : D) (st : State) : Out RV := (v st).bd (kDs4 kvs kd)
def kDs2 (v : M RV) (kvs : List (Key × D)) (r : RV) (st : State) : Out RV := (RV.frz r st).bd (kDs3 v kvs)
def kDs1 (k v : M RV) (d : D) (st : State) : Out RV := match d with
  | .dct kvs => if kvs.length ≤ lim then (k st).bd (kDs2 v kvs) else .stuck
  | _ => .stuck
def kDs0 (k v : M RV) (r : RV) (st : State) : Out RV := (RV.frz r st).bd (kDs1 k v)
@[simp] theorem kDs4_e {kvs : List (Key × D)} {kd : D} {r : RV} : kDs4 kvs kd r st = (RV.frz r st).bd (kDs5 kvs kd) := rfl
@[simp] theorem kDs3_e {kvs : List (Key × D)} {kd : D} : kDs3 v kvs kd st = (v st).bd (kDs4 kvs kd) := rfl
@[simp] theorem kDs2_e {kvs : List (Key × D)} {r : RV} : kDs2 v kvs r st = (RV.frz r st).bd (kDs3 v kvs) := rfl
@[simp] theorem kDs0_e {r : RV} : kDs0 k v r st = (RV.frz r st).bd (kDs1 k v) := rfl
@[simp] theorem kDs5_s {kvs : List (Key × D)} {z : Str} {vd : D} : kDs5 kvs (.str z) vd st = .ok (.ow (.dc (dput (mergeD [] kvs) (.inr z) vd))) st := rfl
@[simp] theorem kDs5_i {kvs : List (Key × D)} {z : Int} {vd : D} : kDs5 kvs (.int z) vd st = .ok (.ow (.dc (dput (mergeD [] kvs) (.inl z) vd))) st := rfl
@[simp] theorem r_dstar : mDStar a k v st = (a st).bd (kDs0 k v) := by
  refine frz_bd.trans ?_
  congr 1
  funext r st1
  show (RV.frz r st1).bd _ = (RV.frz r st1).bd _
  congr 1
  funext d st2
  cases d <;> try rfl
  rename_i kvs
  show (if kvs.length ≤ lim then _ else M.stuck : M RV) st2 = if kvs.length ≤ lim then _ else _
  by_cases h : kvs.length ≤ lim
  · rw [if_pos h, if_pos h]
    refine frz_bd.trans ?_
    congr 1
    funext r st3
    show (RV.frz r st3).bd _ = (RV.frz r st3).bd _
    congr 1
    funext kd st4
    refine frz_bd.trans ?_
    show _ = (v st4).bd (kDs4 kvs kd)
    congr 1
    funext r st5
    show (RV.frz r st5).bd _ = (RV.frz r st5).bd _
    congr 1
    funext vd st6
    unfold kDs5
    cases asKey kd <;> rfl
  · rw [if_neg h, if_neg h]
    rfl
/-! {k: v for ..} that draws nothing -/
def kDe4 (x : D) (y : D) (st : State) : Out (Key × D) := match asKey x with
  | some k => .ok (k, y) st
  | none => .stuck
def kDe3 (x : D) (r : RV) (st : State) : Out (Key × D) := (RV.frz r st).bd (kDe4 x)
def kDe2 (ev : M RV) (x : D) (st : State) : Out (Key × D) := (ev st).bd (kDe3 x)
def kDe1 (ev : M RV) (r : RV) (st : State) : Out (Key × D) := (RV.frz r st).bd (kDe2 ev)
def kDe (ek ev : M RV) (k : Bool) (st : State) : Out (Key × D) := if k then (ek st).bd (kDe1 ev) else .stuck
def kDs (t : M Bool) (ek ev : M RV) (o : Option State) : Out (Key × D) := match o with
  | some st1 => (t st1).bd (kDe ek ev)
  | none => .stuck
@[simp] theorem kDe4_s {z : Str} {y : D} : kDe4 (.str z) y st = .ok (.inr z, y) st := rfl
@[simp] theorem kDe4_i {z : Int} {y : D} : kDe4 (.int z) y st = .ok (.inl z, y) st := rfl
@[simp] theorem kDe3_e {x : D} {r : RV} : kDe3 x r st = (RV.frz r st).bd (kDe4 x) := rfl
@[simp] theorem kDe2_e {x : D} : kDe2 ev x st = (ev st).bd (kDe3 x) := rfl
@[simp] theorem kDe1_e {r : RV} : kDe1 ev r st = (RV.frz r st).bd (kDe2 ev) := rfl
@[simp] theorem kDe_t : kDe ek ev true st = (ek st).bd (kDe1 ev) := rfl
@[simp] theorem kDs_s : kDs t ek ev (some st) = (t st).bd (kDe ek ev) := rfl
def kDco2 (o : Out (List (Key × D))) : Out RV := match o with
  | .ok xs st' => .ok (.ow (.dc xs)) st'
  | _ => .stuck
def kDco (own : List Nat) (g : D → State → Option State) (t : M Bool) (ek ev : M RV) (ds : List D) (st : State) : Out RV := kDco2 (mDCL own g t ek ev ds [] (st.wipe own))
@[simp] theorem r_dcomp {it : M (List D)} : mDComp own it g t ek ev st = (it st).bd (kDco own g t ek ev) := rfl
theorem dput_new {kvs : List (Key × D)} {k : Key} {d : D} (h : k ∉ kvs.map (·.1)) : dput kvs k d = kvs ++ [(k, d)] := by
  unfold dput
  rw [if_neg]
  intro z
  obtain ⟨x, h1, h2⟩ := List.any_eq_true.mp z
  exact h (List.mem_map.mpr ⟨x, h1, of_decide_eq_true h2⟩)
/-! len({e for ..}) that draws nothing -/
def kSe2 (x : D) (st : State) : Out Key := match asKey x with
  | some k => .ok k st
  | none => .stuck
def kSe1 (r : RV) (st : State) : Out Key := (RV.frz r st).bd kSe2
def kSe (ek : M RV) (k : Bool) (st : State) : Out Key := if k then (ek st).bd kSe1 else .stuck
def kSs (t : M Bool) (ek : M RV) (o : Option State) : Out Key := match o with
  | some st1 => (t st1).bd (kSe ek)
  | none => .stuck
@[simp] theorem kSe2_s {z : Str} : kSe2 (.str z) st = .ok (.inr z) st := rfl
@[simp] theorem kSe2_i {z : Int} : kSe2 (.int z) st = .ok (.inl z) st := rfl
@[simp] theorem kSe1_e {r : RV} : kSe1 r st = (RV.frz r st).bd kSe2 := rfl
@[simp] theorem kSe_t : kSe ek true st = (ek st).bd kSe1 := rfl
@[simp] theorem kSs_s : kSs t ek (some st) = (t st).bd (kSe ek) := rfl
def kSco2 (o : Out (List Key)) : Out RV := match o with
  | .ok xs st' => .ok (.sh (.int xs.length)) st'
  | _ => .stuck
def kSco (own : List Nat) (g : D → State → Option State) (t : M Bool) (ek : M RV) (ds : List D) (st : State) : Out RV := kSco2 (mSCL own g t ek ds [] (st.wipe own))
@[simp] theorem r_slen {it : M (List D)} : mSLen own it g t ek st = (it st).bd (kSco own g t ek) := rfl
end
end PM
set_option Elab.async false
set_option linter.all false
set_option maxRecDepth 100000
set_option maxHeartbeats 1200000
namespace PM
open PySem PySem.Spec L2
/-! ### a, b, c = x, y, z where a tuple is built: what is new stays the frame's own -/
end PM
set_option Elab.async false
set_option linter.all false
set_option maxRecDepth 100000
set_option maxHeartbeats 1200000
namespace PM
open PySem PySem.Spec L2
/-! ### comprehensions with two fors -/
def mComp2L (own vs1 : List Nat) (g : D → State → Option State) (t : M Bool) (it1 : M (List D)) (g1 : D → State → Option State) (t1 : M Bool) (e : M RV) : List D → List D → M (List D)
  | [], acc => M.pure acc
  | d :: ds, acc => fun st => match g d (st.wipe own) with
    | none => .stuck
    | some st1 => match t st1 with
      | .ok true st2 => match it1 st2 with
        | .ok ds1 st3 => match mCompL vs1 g1 t1 e ds1 acc (st3.wipe vs1) with
          | .ok acc' st4 => mComp2L own vs1 g t it1 g1 t1 e ds acc' (st4.wipe own)
          | _ => .stuck
        | _ => .stuck
      | .ok false st2 => mComp2L own vs1 g t it1 g1 t1 e ds acc (st2.wipe own)
      | _ => .stuck
def mComp2 (own vs1 : List Nat) (it : M (List D)) (g : D → State → Option State) (t : M Bool) (it1 : M (List D)) (g1 : D → State → Option State) (t1 : M Bool) (e : M RV) : M RV := it.bind fun ds st => match mComp2L own vs1 g t it1 g1 t1 e ds [] (st.wipe own) with
  | .ok xs st' => .ok (.ow (.ls xs)) st'
  | _ => .stuck
end PM
set_option Elab.async false
set_option linter.all false
set_option maxRecDepth 100000
set_option maxHeartbeats 3200000
namespace PySem
namespace F
end F
end PySem
namespace PM
open PySem PySem.Spec PyProof.Rows L2
/-! ### set(xs) of texts and ints -/
end PM
set_option Elab.async false
set_option linter.all false
set_option maxRecDepth 100000
set_option maxHeartbeats 2400000
namespace PM
open PySem PySem.Spec L2 PyProof.Rows
open Classical
/-! ### f(lambda: body): a def that calls what it got -/
section
variable {X : Cx} {pins : List (Addr × Obj)} {σ : L2.St} {H : Hp} {s : Shared}
/-- how the heap's view grows where a lambda is made -/
def LamH (P : Addr) (q : Str) (ps : Array Value) (H : Hp) (c' : Addr) (H1 : Hp) : Prop :=
  (H1 = H ∧ ∃ pos : Pos, codeAmong pos ps.toList = some (.ref c')) ∨
  (H c' = none ∧ ∃ more : Array Value, H1 = upd (upd H P (.tbl (ps ++ more))) c' (LamX.CodeO c' q) ∧ TriplesOk (ps ++ more).toList ∧ ∀ (pos : Pos) (cv : Value), codeAmong pos (ps ++ more).toList = some cv → codeAmong pos ps.toList = some cv ∨ cv = .ref c')
theorem lam_mk {c P : Addr} {q : Str} {ps : Array Value} {params : Arguments} {body : Expr} {scope : Scope} {pos : Pos} {Ex : Value → Shared → Prop} {Q : Value → Shared → Prop} (I : Inv X pins σ H s) (TB : LamX.TabB X.base X.mg c P) (hcode : X.env.code = .ref c)
    (hP : H P = some (.tbl ps)) (ht : TriplesOk ps.toList) (hdef : defaultsOf params X.env = ([], [])) (hfree : ∀ y ∈ scope.names, y.2 = .free → ∃ c, X.env.cells.lookup y.1 = some c)
    (ha : ∀ (pos : Pos) (cv : Value), codeAmong pos ps.toList = some cv → ∃ c, cv = .ref c)
    (h : ∀ (f c' : Addr) (pm ctv : Value) (H1 : Hp) (s' : Shared), Inv X pins σ H1 s' → LamH P (X.env.qual ++ "<lambda>") ps H c' H1 →
      s'.heap.get? f = some (PySem.W.kla_obj "<lambda>" (X.env.qual ++ "<lambda>") params body scope (cloFrom X.env.cells scope.names []) pm c' ctv) → H1 f = none → f ∉ frs X.stack → Q (.ref f) s') :
    wpAny (model X.prog X.w) X.A (eval (.Lambda params body scope pos) X.env) Q Ex s := by
  refine PySem.W.kla_eval hdef ?_
  have bP : s.heap.BuiltinsAt X.mg P := TB.bm.keeps I.bk
  have at0 : s.heap.get? P = some { cls := .none, data := .fields ps } := I.hok P _ hP
  have away : ∀ f, s.heap.objs.size ≤ f → f ∉ frs X.stack := fun f hf z => by
    rcases List.mem_cons.mp (I.stkSub _ z) with e | e
    · have h1 := I.lt
      rw [← e] at h1
      exact Nat.lt_irrefl _ (Nat.lt_of_lt_of_le h1 hf)
    · exact I.nofs hf e
  rcases Option.eq_none_or_eq_some (codeAmong pos ps.toList) with hc | ⟨cv, hc⟩
  · refine PySem.W.kla_makeFunction (mg := X.mg) (c := c) (P := P) (ps := ps) (closure_ok hfree) I.ok.glob (I.mod.glob.keeps I.bk) hcode (TB.code.keeps I.bk) at0 ht hc TB.gP bP fun c' ctv h' tk hx hge hlt hrec htb => ?_
    obtain ⟨c2, oc, vs, t, e2, hoc, hd, hv⟩ := hrec
    cases e2
    have nC : H c' = none := I.hok.fresh hge
    have big : s.heap.objs.size ≤ h'.objs.size := Nat.le_trans hge (Nat.le_of_lt hlt)
    have eL : (ps ++ #[rawInt pos.line, rawInt pos.col, .ref c']).toList = ps.toList ++ [rawInt pos.line, rawInt pos.col, .ref c'] := by simp
    have I1 := LamX.inv_table (t' := tk) (more := #[rawInt pos.line, rawInt pos.col, .ref c']) (q := X.env.qual ++ "<lambda>") (h' := h'.push (PySem.W.kla_obj "<lambda>" (X.env.qual ++ "<lambda>") params body scope (cloFrom X.env.cells scope.names []) ((X.mg "__name__").getD .none) c' ctv)) I hP
      (fun b o hb e => Heap.get?_push_of_some _ (hx b o hb e)) (Heap.get?_push_of_some _ htb) hge ⟨oc, vs, t, Heap.get?_push_of_some _ hoc, hd, hv⟩
    refine h h'.objs.size c' ((X.mg "__name__").getD .none) ctv _ _ I1 (.inr ⟨nC, _, rfl, by rw [eL]; exact PySem.TriplesOk_snoc _ _ _ _ ht, fun p' cv hcv => ?_⟩) (Heap.get?_push_size _ rfl) ?_ (away _ big)
    · rw [eL] at hcv
      exact LamX.among_app _ ht hcv
    · have n1 : h'.objs.size ≠ c' := Nat.ne_of_gt hlt
      have n2 : h'.objs.size ≠ P := Nat.ne_of_gt (Nat.lt_of_lt_of_le (Heap.lt_size at0) big)
      rw [upd_ne n1, upd_ne n2]
      exact I.hok.fresh big
  · obtain ⟨c', e⟩ := ha pos cv hc
    subst e
    refine PySem.W.kla_makeFunctionHit (mg := X.mg) (c := c) (P := P) (ps := ps) (closure_ok hfree) I.ok.glob (I.mod.glob.keeps I.bk) hcode (TB.code.keeps I.bk) at0 ht hc bP fun ctv h' tk hx hsz => ?_
    have I1 : Inv X pins σ H { s with heap := h'.push (PySem.W.kla_obj "<lambda>" (X.env.qual ++ "<lambda>") params body scope (cloFrom X.env.cells scope.names []) ((X.mg "__name__").getD .none) c' ctv), toks := tk } := I.kept fun b o e => Heap.get?_push_of_some _ (hx b o e)
    exact h h'.objs.size c' ((X.mg "__name__").getD .none) ctv H _ I1 (.inl ⟨rfl, pos, hc⟩) (Heap.get?_push_size _ rfl) (I.hok.fresh hsz) (away _ hsz)
end
section
variable {K : PySem.W.Frag} {E : Ent} {σ : L2.St} {H : Hp} {st : State} {φ : List Addr} {I : Hp}
/-- the run's view where a lambda was made -/
theorem Rp.lam (R : Rp K E σ H st φ I) {t : Nat} {P c' : Addr} {q : Str} {ps : Array Value} {H1 : Hp} (hs : st.store[t]? = some (.tab P q)) (hφ : φ[t]? = some P) (hP : H P = some (.tbl ps)) (ha : ∀ (pos : Pos) (cv : Value), codeAmong pos ps.toList = some cv → ∃ c, cv = .ref c ∧ I c = some (LamX.CodeO c q)) (h : LamH P q ps H c' H1) :
    ∃ I1, Rp K E σ H1 st φ I1 ∧ Stp σ H st φ I H1 st φ I1 ∧ I1 c' = some (LamX.CodeO c' q) := by
  rcases h with ⟨rfl, pos, hc⟩ | ⟨nC, more, rfl, hok, hmem⟩
  · obtain ⟨c, e1, e2⟩ := ha pos _ hc
    cases e1
    exact ⟨I, R, Stp.refl, e2⟩
  · obtain ⟨f1, f2, f3, f4⟩ := R.fresh nC
    have nPc : P ≠ c' := fun z => by rw [z, nC] at hP; cases hP
    have eI : Ex I (upd I c' (LamX.CodeO c' q)) := ex_upd f3
    have atP : upd (upd H P (.tbl (ps ++ more))) c' (LamX.CodeO c' q) P = some (.tbl (ps ++ more)) := by rw [upd_ne nPc, upd_same]
    have atC : upd (upd H P (.tbl (ps ++ more))) c' (LamX.CodeO c' q) c' = some (LamX.CodeO c' q) := upd_same
    have U : ∀ b, b ≠ P → b ≠ c' → upd (upd H P (.tbl (ps ++ more))) c' (LamX.CodeO c' q) b = H b := fun b h1 h2 => by rw [upd_ne h2, upd_ne h1]
    have nc : ∀ b u, H b = some u → b ≠ c' := fun b u e z => by rw [z, nC] at e; cases e
    have hPφ : P ∈ φ := List.mem_of_getElem? hφ
    have tI : I P = none := by
      rcases R.cells t _ P hs hφ with z | ⟨o, _, z, _⟩
      · cases z
      · exact z
    have nPI : ∀ b u, I b = some u → b ≠ P := fun b u e z => by rw [z, tI] at e; cases e
    have nP0 : ∀ b, b ∉ E.p0 → E.H0 b ≠ none → b ≠ P := fun b h1 h2 z => by
      rcases R.pnew P hPφ with y | y
      · exact h1 (z ▸ y)
      · exact h2 (z ▸ y)
    refine ⟨upd I c' (LamX.CodeO c' q), ⟨fun b u e => ?_, fun b u e n => ?_, fun b e => ?_, fun b e n => ?_, fun b u e => eI _ _ (R.iold b u e), R.pre, R.fl.ii eI, R.pnew, R.nd, R.len, fun i cc b h1 h2 => ?_, fun b e => ?_, R.elen, fun i d e => ?_, fun i cc e => ?_, R.one⟩,
      ⟨List.prefix_rfl, fun _ h n => absurd h n, eI, fun b u e n no => ?_, fun b e => ?_, fun b e n => ?_, fun _ _ h => h⟩, upd_same⟩
    · by_cases hb : b = c'
      · rw [hb, upd_same] at e
        rw [hb, atC]
        exact e
      · rw [upd_ne hb] at e
        rw [U b (nPI b u e) hb]
        exact R.ext b u e
    · have := R.keep b u e n
      rw [U b (nP0 b n (by rw [e]; simp)) (nc b u this)]
      exact this
    · have := R.there b e
      by_cases h1 : b = c'
      · rw [h1, atC]; simp
      · by_cases h2 : b = P
        · rw [h2, atP]; simp
        · rw [U b h2 h1]; exact this
    · by_cases hb : b = c'
      · rw [hb]; exact .inl f1
      · rw [upd_ne hb] at e
        exact R.inew b e n
    · rcases R.cells i cc b h1 h2 with z | ⟨u, z1, z2, z3⟩
      · exact .inl z
      · refine .inr ?_
        have hbc := nc b u z1
        by_cases hb : b = P
        · subst hb
          have hit : i = t := nodup_at R.nd h2 hφ
          subst hit
          rw [hs] at h1
          cases h1
          refine ⟨_, atP, by rw [upd_ne hbc]; exact z2, .tab hok fun pos cv hcv => ?_⟩
          rcases hmem pos cv hcv with y | y
          · obtain ⟨c, e1, e2⟩ := ha pos cv y
            exact ⟨c, e1, eI _ _ e2⟩
          · exact ⟨c', y, upd_same⟩
        · exact ⟨u, by rw [U b hb hbc]; exact z1, by rw [upd_ne hbc]; exact z2, z3.mono List.prefix_rfl eI⟩
    · have := R.pin b e
      by_cases h1 : b = c'
      · rw [h1, atC]; simp
      · by_cases h2 : b = P
        · rw [h2, atP]; simp
        · rw [U b h2 h1]; exact this
    · obtain ⟨v, h1, h2⟩ := R.sh i d e
      exact ⟨v, h1, h2.mono List.prefix_rfl eI⟩
    · obtain ⟨b, h1, ⟨u, z1, z2, z3⟩, h3, h4⟩ := R.ow i cc e
      have hbc := nc b u z1
      have hb : b ≠ P := fun z => h3 (z ▸ hPφ)
      exact ⟨b, h1, ⟨u, by rw [U b hb hbc]; exact z1, by rw [upd_ne hbc]; exact z2, z3.mono List.prefix_rfl eI⟩, h3, h4⟩
    · rw [U b (fun z => n (z ▸ hPφ)) (nc b u e)]
      exact e
    · by_cases h1 : b = c'
      · rw [h1, atC]; simp
      · by_cases h2 : b = P
        · rw [h2, atP]; simp
        · rw [U b h2 h1]; exact e
    · by_cases hb : b = c'
      · rw [hb]; exact .inl nC
      · rw [upd_ne hb] at e
        exact absurd n e
end
/-! the slots that a lambda captures, shared -/
def frzL : List Nat → M Unit
  | [] => M.pure ()
  | i :: l => (mVar i).bind fun _ => frzL l
theorem frz_caps {X : Cx} {E : Ent} {σ : L2.St} {pins : List (Addr × Obj)} {s : Shared} {φ : List Addr} : ∀ (caps : List Nat) {st st1 : State} {H I : Hp}, Rp X.K E σ H st φ I → Inv X pins σ H s → frzL caps st = .ok () st1 →
    ∃ H1 I1, Inv X pins σ H1 s ∧ Rp X.K E σ H1 st1 φ I1 ∧ Stp σ H st φ I H1 st1 φ I1 ∧ st1.store = st.store
  | [], st, st1, H, I, R, V, e => by
    cases e
    exact ⟨H, I, V, R, Stp.refl, rfl⟩
  | i :: l, st, st1, H, I, R, V, e => by
    unfold frzL M.bind at e
    cases e0 : mVar i st with
    | stuck => rw [e0] at e; cases e
    | exc c s => rw [e0] at e; cases e
    | ok d st2 =>
      rw [e0] at e
      have e : frzL l st2 = .ok () st1 := e
      unfold mVar at e0
      cases es : st.env[i]? with
      | none => rw [es] at e0; cases e0
      | some sl =>
        rw [es] at e0
        cases sl with
        | un => cases e0
        | sh d0 =>
          cases e0
          exact frz_caps l R V e
        | ow c =>
          cases e0
          obtain ⟨v, h1, g⟩ := R.frzSlot es
          have key := g (Q := fun _ H1 => Inv X pins σ H1 s → ∃ H2 I2, Inv X pins σ H2 s ∧ Rp X.K E σ H2 st1 φ I2 ∧ Stp σ H st φ I H2 st1 φ I2 ∧ st1.store = st.store) fun H' I' R' S' _ V' => by
            obtain ⟨H2, I2, a1, a2, a3, a4⟩ := frz_caps l R' V' e
            exact ⟨H2, I2, a1, a2, S'.trans a3, a4⟩
          rcases key with key | ⟨a, o, _, b1, b2, key⟩
          · exact key V
          · obtain ⟨od, V2⟩ := V.lock b1 b2
            exact key od V2
end PM
set_option Elab.async false
set_option linter.all false
set_option maxRecDepth 100000
set_option maxHeartbeats 2400000
namespace PM
open PySem PySem.Spec L2 PyProof.Rows
open Classical
/-! ### what was got is called; a def that calls what it got; f(lambda: body) -/
/-- a() where a is what the def got -/
noncomputable def mCb (i : Nat) (v : V) (cb : List Cell → FRes) : M RV := fun st => if st.env[i]? = some (.sh (.val v)) then ofF st (cb st.store) else .stuck
/-- what a's call is worth, in a def's frame -/
def CbS (X : Cx) (E : Ent) (v : V) (cb : List Cell → FRes) : Prop :=
  ∀ (W : WX) (pn : List (Addr × Obj)) (xe : Value → Shared → Prop) (i : Nat) (a : Str) (p1 p2 : Pos), Takes (X.tr pn xe) W → X.N[i]? = some a → Vis X.env.scope a → (a == ("__debug__" : Str)) = false → (a == ("__classdict__" : Str)) = false →
    SR (X.tr pn xe) E W (.Call (.Name a p1) [] [] p2) (mCb i v cb)
/-- at f a def of one parameter, that calls it, is worth FH of what it gets -/
def FnH (P : Program) (w : World) (K : PySem.W.Frag) (mg : Str → Option Value) (base : Heap) (k : Nat) (f : Addr) (FH : (List Cell → FRes) → Fn) : Prop :=
  ∀ (A : Around) (outer : List Env) (s : Shared) (H : Hp) (u : Addr) (cb : List Cell → FRes) (store : List Cell) (φ : List Addr) (I : Hp) (Q : VK) (E : XK), Room k A → A.guards = some [] → Env0 P w K mg base A outer s H → Rq K H store φ I →
    (∀ (j : Nat) (N : List Str) (qual : Str) (scope : Scope) (cdv : Value) (E' : XK), k = j + 1 → Room j (A.deeper (envOfC qual scope s.heap.objs.size f cdv)) → CbS (cxOf (L2.CX P w) P w K mg base N qual scope f cdv A outer s H E') (.at H φ I) (.ref u) cb) → Fq K H φ I Q E (FH cb [.val (.ref u)] store) →
    codeAny (model P w) A (.call (.ref f) ⟨[.ref u], []⟩) (CR (L2.CX P w) outer P w H s Q E) s
section
variable {P : Program} {w : World} {K : PySem.W.Frag} {mg : Str → Option Value} {base : Heap} {k : Nat} {f : Addr} {name qual a : Str} {params : Arguments} {body : List Stmt} {scope : Scope} {N : List Str} {ms : V → (List Cell → FRes) → MS} {kws : List (Str × V)} {fd : FuncData}
def runH1 (ms : V → (List Cell → FRes) → MS) (n : Nat) (cb : List Cell → FRes) : Fn := fun ds store => match ds with
  | [.val v] => runF (ms v cb) n [.val v] store
  | _ => .stuck
theorem fn_h (F : FunD K name qual params body scope [] kws f fd) (S : FnScope N [a] scope)
    (hb : ∀ (kV doc pm : Value) (an : Option Addr) (cdv ct : Value) (us : List Value), us.length = 1 → bindArgs (PySem.W.fnOf name qual params body scope .none kV doc pm an cdv ct) ⟨us, []⟩ = pure ([a].zip us))
    (hbody : ∀ (cdv : Value) (A : Around) (outer : List Env) (s : Shared) (H : Hp) (Ee : Ent) (E : XK) (v : V) (cb : List Cell → FRes), Room k (A.deeper (envOfC qual scope s.heap.objs.size f cdv)) → (A.deeper (envOfC qual scope s.heap.objs.size f cdv)).guards = some [] →
      Takes (cxOf (L2.CX P w) P w K mg base N qual scope f cdv A outer s H E) (fun cls d _ H => E cls d H) → CbS (cxOf (L2.CX P w) P w K mg base N qual scope f cdv A outer s H E) Ee v cb → SSs (cxOf (L2.CX P w) P w K mg base N qual scope f cdv A outer s H E) Ee (fun cls d _ H => E cls d H) body (ms v cb)) :
    FnH P w K mg base (k + 1) f (runH1 ms (N.length - 1)) := by
  obtain ⟨oc, od, dV, kV, doc, pm, an, cdv, ct, osl, rfl, lk, hcd, hD, _⟩ := F.ex
  rcases hD with ⟨_, rfl⟩ | ⟨e, _⟩
  · intro A outer s H u cb store φ I Q E hr hgd e0 hq act hf
    refine LamX.run_ofS (N := N) (ps := [a]) (us := [.ref u]) (vs := [V.ref u]) lk hcd S hr e0 (.of_eq (hb kV doc pm an cdv ct [.ref u] rfl)) (.cons rfl .nil) rfl fun hr' => ?_
    refine ⟨_, hbody cdv A outer s H (.at H φ I) E (.ref u) cb hr' (by rw [show (A.deeper _).guards = A.guards from rfl]; exact hgd) (takes_of rfl rfl rfl rfl) (act k N qual scope cdv E rfl hr'), ?_⟩
    have hp : Rvs K φ I [D.val (V.ref u)] [V.ref u] := .cons (.val _) .nil
    have hpl : 1 ≤ N.length := by
      have := congrArg List.length S.pre
      rw [List.length_take] at this
      simp at this
      omega
    exact rd_body (ms := ms (.ref u) cb) (Rq.enter hq hp (by simpa using hpl)) hf
  · exact absurd rfl e
end
section
variable {K : PySem.W.Frag} {E : Ent} {W : WX} {σ : L2.St} {H : Hp} {st : State} {φ : List Addr} {I : Hp} {Q : VK} {F : FRes}
/-- a call's run, as a promise -/
theorem fq_of {H0 : Hp} {st0' : State} {φ0 : List Addr} {I0 : Hp} (S : Stp σ H0 st0' φ0 I0 H st φ I) (R : Rp K E σ H st φ I) (p : Po K E W σ (ofF st F) H0 st0' φ0 I0 fun r H' st' φ' I' => ∀ v, Rr K E σ H' st' φ' I' r v → Nw σ H0 st0' r v → Q v H') : Fq K H φ I Q (WE W σ) F := by
  cases F with
  | stuck => exact p.elim
  | exc c store' =>
    intro d H' φ' I' B hx
    obtain ⟨R2, S2⟩ := R.after B
    exact p d H' φ' I' (S.trans S2) R2 (Rx.after R hx)
  | ret r store' =>
    intro v H' φ' I' B hr
    obtain ⟨R2, S2⟩ := R.after B
    cases r with
    | lo i => exact p.elim
    | sh d =>
      obtain ⟨hr', hn'⟩ := Rr.after R hr (fun i z => by cases z)
      exact p H' φ' I' (S.trans S2) R2 v hr' (hn'.back S)
    | ow c =>
      obtain ⟨hr', hn'⟩ := Rr.after R hr (fun i z => by cases z)
      exact p H' φ' I' (S.trans S2) R2 v hr' (hn'.back S)
/-- the lambda's outcome -/
def cbF : Out RV → FRes
  | .ok (.sh d) st' => .ret (.sh d) st'.store
  | .ok (.ow c) st' => .ret (.ow c) st'.store
  | .exc c st' => .exc c st'.store
  | _ => .stuck
theorem rd_lamB {m : M RV} {Ex : XK} (R : Rp K (.at H φ I) σ H st φ I) (h : Fq K H φ I Q Ex (cbF (m st))) : rdR K (.at H φ I) (fun cls d _ H => Ex cls d H) m σ H Q := by
  refine ⟨st, φ, I, R, ?_⟩
  cases e : m st with
  | stuck => rw [e] at h; exact h.elim
  | exc c st' => rw [e] at h; exact fun d H' φ' I' _ R' hx => h d H' φ' I' R'.forget hx
  | ok r st' =>
    rw [e] at h
    cases r with
    | lo i => exact h.elim
    | sh d => exact fun H' φ' I' _ R' v hr _ => h v H' φ' I' R'.forget (hr.forget fun i z => by cases z)
    | ow c => exact fun H' φ' I' _ R' v hr _ => h v H' φ' I' R'.forget (hr.forget fun i z => by cases z)
end
/-- the captured slots alone -/
def shS : Slot → Slot
  | .sh d => .sh d
  | _ => .un
def maskE (caps : List Nat) : Nat → List Slot → List Slot
  | _, [] => []
  | i, s :: r => (if caps.contains i then shS s else .un) :: maskE caps (i + 1) r
theorem maskE_len (caps : List Nat) : ∀ (i : Nat) (l : List Slot), (maskE caps i l).length = l.length
  | _, [] => rfl
  | i, s :: r => by
    unfold maskE
    rw [List.length_cons, List.length_cons, maskE_len caps (i + 1) r]
theorem maskE_sh (caps : List Nat) : ∀ (i : Nat) (l : List Slot) (j : Nat) (d : D), (maskE caps i l)[j]? = some (.sh d) → l[j]? = some (.sh d)
  | _, [], j, d, h => by simp [maskE] at h
  | i, s :: r, 0, d, h => by
    unfold maskE at h
    simp only [List.getElem?_cons_zero, Option.some.injEq] at h ⊢
    by_cases hc : caps.contains i = true
    · rw [if_pos hc] at h
      cases s <;> simp [shS] at h ⊢
      exact h
    · rw [if_neg hc] at h
      cases h
  | i, s :: r, j + 1, d, h => by
    unfold maskE at h
    simp only [List.getElem?_cons_succ] at h ⊢
    exact maskE_sh caps (i + 1) r j d h
theorem shS_ow {s : Slot} {c : Cell} : shS s ≠ .ow c := by cases s <;> simp [shS]
theorem maskE_ow (caps : List Nat) : ∀ (i : Nat) (l : List Slot) (j : Nat) (c : Cell), (maskE caps i l)[j]? = some (.ow c) → False
  | _, [], j, d, h => by simp [maskE] at h
  | i, s :: r, 0, d, h => by
    unfold maskE at h
    simp only [List.getElem?_cons_zero, Option.some.injEq] at h
    by_cases hc : caps.contains i = true
    · rw [if_pos hc] at h
      exact shS_ow h
    · rw [if_neg hc] at h
      cases h
  | i, s :: r, j + 1, d, h => by
    unfold maskE at h
    simp only [List.getElem?_cons_succ] at h
    exact maskE_ow caps (i + 1) r j d h
def cbOf (caps : List Nat) (mb : M RV) (env : List Slot) : List Cell → FRes := fun store => cbF (mb ⟨maskE caps 0 env, store⟩)
section
variable {K : PySem.W.Frag} {E : Ent} {σ : L2.St} {H HZ : Hp} {st : State} {φ φZ : List Addr} {I IZ : Hp} {store : List Cell}
theorem Rp.mask (R : Rp K E σ H st φ I) (caps : List Nat) (q : Rq K HZ store φZ IZ) (pf : φ <+: φZ) (e : Ex I IZ) : Rp K (.at HZ φZ IZ) σ HZ ⟨maskE caps 0 st.env, store⟩ φZ IZ :=
  ⟨q.ext, fun _ _ e _ => e, fun _ h => h, fun a h n => absurd n h, Ex.refl _, ⟨[], by simp⟩, ⟨List.prefix_rfl, Ex.refl _⟩, fun a h => .inl h, q.nd, q.len, q.cells, q.pin, (maskE_len caps 0 st.env).trans R.elen, fun i d h => by
    obtain ⟨v, h1, h2⟩ := R.sh i d (maskE_sh caps 0 st.env i d h)
    exact ⟨v, h1, h2.mono pf e⟩, fun i c h => (maskE_ow caps 0 st.env i c h).elim, fun i j a h => by
    obtain ⟨c, h1, _⟩ := h
    exact (maskE_ow caps 0 st.env i c h1).elim⟩
end
section
variable {X : Cx} {pins : List (Addr × Obj)} {σ : L2.St} {H : Hp} {s : Shared} {E : Ent} {st : State} {φ : List Addr} {I : Hp}
/-- what the lambda's body must be worth -/
abbrev LamB (X : Cx) (k : Nat) (scope : Scope) (body : Expr) (mb : M RV) : Prop :=
  ∀ (A : Around) (outer : List Env) (s : Shared) (H : Hp) (E : XK) (f c' : Addr) (E' : Ent), Room k (A.deeper (LamX.lamEnv X scope s.heap.objs.size f c')) → A.guards = some [] → Takes (LamX.lamCx X A outer s H E scope f c') (fun cls d _ H => E cls d H) →
    SR (LamX.lamCx X A outer s H E scope f c') E' (fun cls d _ H => E cls d H) body mb
theorem cb_ok {k : Nat} {f c' g : Addr} {cdg pm ctv : Value} {params : Arguments} {body : Expr} {scope : Scope} {mb : M RV} {Ng : List Str} {qg : Str} {sg : Scope} {Eg : XK} {caps : List Nat} (V0 : Inv X pins σ H s) (R : Rp X.K E σ H st φ I) (hgd : X.A.guards = some []) (L : LamX.LamS X.env.scope scope)
    (hf : s.heap.get? f = some (PySem.W.kla_obj "<lambda>" (X.env.qual ++ "<lambda>") params body scope (cloFrom X.env.cells scope.names []) pm c' ctv)) (hfn : H f = none) (hfr : f ∉ frs X.stack) (hco : I c' = some (LamX.CodeO c' (X.env.qual ++ "<lambda>")))
    (hbind : bindArgs (PySem.W.kla_fn "<lambda>" (X.env.qual ++ "<lambda>") params body scope (cloFrom X.env.cells scope.names []) pm (.ref c') ctv) ⟨[], []⟩ = pure [])
    (hr : Room (k + 1) (X.A.deeper (envOfC qg sg s.heap.objs.size g cdg))) (hbody : LamB X k scope body mb) :
    CbS (cxOf (L2.CX X.prog X.w) X.prog X.w X.K X.mg X.base Ng qg sg g cdg X.A X.stack s H Eg) (.at H φ I) (.ref f) (cbOf caps mb st.env) := by
  intro W pn xe i a p1 p2 tk hN hv hd hcd
  refine ⟨fun pinsZ sZ σZ HZ Q IZ h => ?_⟩
  obtain ⟨stZ, φZ, JZ, RZ, p⟩ := h
  unfold mCb at p
  by_cases he : stZ.env[i]? = some (.sh (.val (.ref f)))
  rotate_left
  · rw [if_neg he] at p
    exact p.elim
  rw [if_pos he] at p
  obtain ⟨v, hs, hrv⟩ := RZ.sh i _ he
  cases hrv
  have fq := fq_of Stp.refl RZ p
  have hc : HZ c' = some (LamX.CodeO c' (X.env.qual ++ "<lambda>")) := RZ.ext _ _ (RZ.iold _ _ hco)
  have pfZ : φ <+: φZ := by
    obtain ⟨more, e⟩ := RZ.pre
    exact ⟨more, e.symm⟩
  have RB : Rp X.K (.at HZ φZ JZ) σ HZ ⟨maskE caps 0 st.env, stZ.store⟩ φZ JZ := R.mask caps RZ.ask pfZ RZ.iold
  refine wpAny_Call_Name_kw (thn ((pe_var (X := (cxOf (L2.CX X.prog X.w) X.prog X.w X.K X.mg X.base Ng qg sg g cdg X.A X.stack s H Eg).tr pn xe) (pos := p1) (i := i) hN hv hd hcd).run pinsZ sZ σZ HZ (fun v H1 => v = .ref f ∧ H1 = HZ) IZ ⟨.ref f, hs, rfl, rfl⟩) fun u s1 ⟨v, H1, I1, r1, q1⟩ => ?_)
  obtain ⟨ev, eH⟩ := q1
  subst ev
  rw [eH] at I1
  obtain rfl : u = Value.ref f := r1
  have of1 : s1.heap.get? f = some (PySem.W.kla_obj "<lambda>" (X.env.qual ++ "<lambda>") params body scope (cloFrom X.env.cells scope.names []) pm c' ctv) := I1.base.keep f _ hf hfn hfr (fun z => nomatch (show f ∈ ([] : List Addr) from z))
  refine PySem.W.callWith_F0 ⟨_, _, _, _, of1⟩ ?_
  have un : Un (frs X.stack) [] H HZ s.heap s1.heap := I1.base
  obtain ⟨⟨oc, vs, t, hoc, hdc, hvc⟩, _, _⟩ := I1.hok c' _ hc
  have rc : codeAny (model X.prog X.w) (X.A.deeper (envOfC qg sg s.heap.objs.size g cdg)) (.call (.ref f) ⟨[], []⟩) (CR (L2.CX X.prog X.w) (envOfC qg sg s.heap.objs.size g cdg :: X.stack) X.prog X.w HZ s1 Q (WE W σZ)) s1 := by
    refine PySem.W.kla_callFunE hr.depth of1 rfl L.co L.gen rfl ⟨c', oc, vs, t, rfl, hoc, hdc, hvc⟩ ?_
    rw [hbind]
    refine wpAny_pure (wpAny_newFunctionEnv (fun y hy => (L.own y hy).2) (fun y hy => absurd hy (by simp)) (fun h₁ hns hsb => ⟨I1.nolimit.fresh _ hsb, ?_⟩) L.kind)
    show codeAny _ _ (.expr body (LamX.lamEnv X scope s1.heap.objs.size f c')) _ _
    have kp : ∀ b o, s1.heap.get? b = some o → h₁.get? b = some o := fun b o e => hsb.extBut b o (Nat.ne_of_lt (Heap.lt_size e)) (Heap.get?_push_of_some _ e)
    have J : Inv (LamX.lamCx X (X.A.deeper (envOfC qg sg s.heap.objs.size g cdg)) (envOfC qg sg s.heap.objs.size g cdg :: X.stack) s1 HZ (WE W σZ) scope f c') [] σ HZ { s1 with heap := h₁, toks := s1.toks + ([] : List (Str × Value)).length } :=
      LamX.lam_start2 V0 L I1.env0 hr.hd un hns kp
    have B := hbody (X.A.deeper (envOfC qg sg s.heap.objs.size g cdg)) (envOfC qg sg s.heap.objs.size g cdg :: X.stack) s1 HZ (WE W σZ) f c' (.at HZ φZ JZ) (hr.deeper _) hgd (takes_of rfl rfl rfl rfl)
    refine PySem.W.kla_codeExpr (wpAny_mono (B.run [] _ _ HZ Q J (rd_lamB RB fq)) (fun v s' hq => ?_) fun e s' hq => hq)
    obtain ⟨w', H', J', rv, q⟩ := hq
    exact ⟨w', H', J'.os, J'.bare, J'.base, J'.hok, rv, q⟩
  refine wpAny_call (codeAny_mono rc fun r s' hq => ?_)
  cases r with
  | error e => exact passAt tk σZ pinsZ HZ s1 e s' I1 hq
  | ok fl =>
    cases fl with
    | ret u => exact I1.after hq
    | next => exact False.elim hq
    | brk => exact False.elim hq
    | cont => exact False.elim hq
end
/-- f(lambda: body): t, P, q: the store's cell of the table, caps: the slots that the body reads -/
noncomputable def mLam (t : Nat) (P : Addr) (q : Str) (caps : List Nat) (FH : (List Cell → FRes) → Fn) (mb : M RV) : M RV := fun st => match frzL caps st with
  | .ok () st1 => if st1.store[t]? = some (.tab P q) then (if h : ∃ F : FRes, ∀ v : V, FH (cbOf caps mb st1.env) [.val v] st1.store = F then ofF st1 h.choose else .stuck) else .stuck
  | _ => .stuck
theorem mLam_e {t : Nat} {P : Addr} {q : Str} {caps : List Nat} {FH : (List Cell → FRes) → Fn} {mb : M RV} {st st1 : State} {F : FRes} (h1 : frzL caps st = .ok () st1) (h2 : st1.store[t]? = some (.tab P q)) (h3 : ∀ v : V, FH (cbOf caps mb st1.env) [.val v] st1.store = F) : mLam t P q caps FH mb st = ofF st1 F := by
  have hx : ∃ F : FRes, ∀ v : V, FH (cbOf caps mb st1.env) [.val v] st1.store = F := ⟨F, h3⟩
  unfold mLam
  rw [h1]
  simp only
  rw [if_pos h2, dif_pos hx, ← hx.choose_spec .non, h3 .non]
section
variable {X : Cx} {E : Ent} {W : WX} {pos p lpos : Pos} {k : Nat} {g c P : Addr} {q : Str} {FH : (List Cell → FRes) → Fn} {x : Str} {params : Arguments} {body : Expr} {scope : Scope} {mb : M RV} {t : Nat} {caps : List Nat}
theorem sr_lam (hF : FnH X.prog X.w X.K X.mg X.base (k + 2) g FH) (hr : Room (k + 2) X.A) (hgd : X.A.guards = some []) (tk : Takes X W) (hg : Gl X x) (hm : X.mg x = some (.ref g)) (hk : PySem.W.keepIn X.K (.ref g) = true)
    (TB : LamX.TabB X.base X.mg c P) (hcode : X.env.code = .ref c) (hq : X.env.qual ++ "<lambda>" = q) (L : LamX.LamS X.env.scope scope) (hdef : defaultsOf params X.env = ([], []))
    (hbind : ∀ (q : Str) (cl : List (Str × Addr)) (pm cv ctv : Value), bindArgs (PySem.W.kla_fn "<lambda>" q params body scope cl pm cv ctv) ⟨[], []⟩ = pure [])
    (hbody : LamB X k scope body mb) (hdb : (x == ("__debug__" : Str)) = false := by decide) :
    SR X E W (.Call (.Name x p) [.Lambda params body scope lpos] [] pos) (mLam t P q caps FH mb) := ⟨fun pins s σ H Q V0 h => by
  subst hq
  obtain ⟨st, φ, I, R, p⟩ := h
  unfold mLam at p
  cases e0 : frzL caps st with
  | stuck => rw [e0] at p; exact p.elim
  | exc c s => rw [e0] at p; exact p.elim
  | ok _ st1 =>
    rw [e0] at p
    simp only at p
    obtain ⟨H1, I1, V1, R1, S1, es⟩ := frz_caps caps R V0 e0
    by_cases hs : st1.store[t]? = some (.tab P (X.env.qual ++ "<lambda>"))
    rotate_left
    · rw [if_neg hs] at p; exact p.elim
    rw [if_pos hs] at p
    by_cases hx : ∃ F : FRes, ∀ v : V, FH (cbOf caps mb st1.env) [.val v] st1.store = F
    rotate_left
    · rw [dif_neg hx] at p; exact p.elim
    rw [dif_pos hx] at p
    have hch := hx.choose_spec
    generalize hx.choose = F at p hch
    have ht : t < φ.length := by
      rw [R1.len]
      exact (List.getElem?_eq_some_iff.mp hs).1
    obtain ⟨P', hP'⟩ : ∃ P', φ[t]? = some P' := ⟨φ[t], List.getElem?_eq_getElem ht⟩
    rcases R1.cells t _ P' hs hP' with z | ⟨o, z1, z2, z3⟩
    · cases z
    cases z3 with
    | tab hok hcodes =>
      refine wpAny_Call_Name_kw (ld_glob V1 hg hm ?_ hdb)
      refine PySem.W.callWith_K (h₀ := X.base) V1.ok.mod.kin hk ?_ (by rfl) (by rfl)
      show wpAny _ _ (spliced ((false, eval (.Lambda params body scope lpos) X.env) :: backTo pos (starEach [] X.env))) _ _ s
      refine Calls.spliced_cons (lam_mk (q := X.env.qual) V1 TB hcode z1 hok hdef (L.has V1.ok) (fun pos cv hcv => let ⟨c, e, _⟩ := hcodes pos cv hcv; ⟨c, e⟩) fun f c' pm' ctv H2 s' V2 hl hf hfn hfr => ?_)
      obtain ⟨I2, R2, S2, hco⟩ := R1.lam hs hP' z1 hcodes hl
      refine Calls.spliced_nil ⟨V2.kIn, ?_⟩
      have fq := fq_of (S1.trans S2) R2 p
      have rc := hF X.A X.stack s' H2 f (cbOf caps mb st1.env) st1.store φ I2 Q (WE W σ) hr hgd V2.env0 R2.ask (fun j Ng qg sg cdg Eg hj hr' => cb_ok (k := k) V2 R2 hgd L hf hfn hfr hco (hbind _ _ _ _ _) (by
        have : j = k + 1 := by omega
        rw [this] at hr'
        exact hr') hbody) (by rw [hch (.ref f)]; exact fq)
      refine wpAny_call (codeAny_mono rc fun r s2 hq => ?_)
      cases r with
      | error e => exact passAt tk σ pins H2 s' e s2 V2 hq
      | ok fl =>
        cases fl with
        | ret u => exact V2.after hq
        | next => exact hq.elim
        | brk => exact hq.elim
        | cont => exact hq.elim⟩
end
end PM
set_option Elab.async false
set_option linter.all false
set_option maxRecDepth 100000
set_option maxHeartbeats 2400000
namespace PM
open PySem PySem.Spec L2 PyProof.Rows
open Classical
/-! ### defs with a lambda: where their code stands; the head's and the law's end with tables -/
section
variable {P : Program} {w : World} {K : PySem.W.Frag} {mg : Str → Option Value} {base : Heap} {k : Nat} {f : PySem.W.Frag → Addr} {m : Nat} {c : Addr} {name qual : Str} {params : Arguments} {body : List Stmt} {scope : Scope} {N ps : List Str} {ms : MS} {kws : List (Str × V)} {fd : FuncData}
/-- fn_p for a def whose code stands at c -/
theorem fn_pT (hcB : codeB f c K = true) (F : FunD K name qual params body scope [] kws (f K) fd) (S : FnScope N ps scope) (hm : m = ps.length := by rfl)
    (hb : ∀ (kV doc pm : Value) (an : Option Addr) (cdv ct : Value) (us : List Value), us.length = ps.length → bindArgs (PySem.W.fnOf name qual params body scope .none kV doc pm an cdv ct) ⟨us, []⟩ = pure (ps.zip us))
    (hbody : Bod P w K mg base k (f K) qual scope N (.ref c) body ms) : FnC P w K mg base (k + 1) (f K) m [] (runF ms (N.length - ps.length)) := by
  subst hm
  obtain ⟨oc, od, dV, kV, doc, pm, an, cdv, ct, osl, rfl, lk, hcd, hD, _⟩ := F.ex
  have hc : cdv = .ref c := by
    unfold codeB at hcB
    rw [lk] at hcB
    have h2 : refIs cdv c = true := hcB
    cases cdv with
    | ref a => exact congrArg Value.ref (eq_of_beq h2)
    | _ => cases h2
  subst hc
  rcases hD with ⟨_, rfl⟩ | ⟨e, _⟩
  · refine fn_c (ds0 := []) (dd0 := []) (dv0 := []) (ks := []) (fun xs => xs) (fun _ _ _ h => h) lk hcd S (fun s us _ hl => .of_eq ?_) (fun xs h => h) hbody
    have e : us.take ps.length = us := List.take_of_length_le (by rw [hl]; exact Nat.le_refl _)
    rw [e]
    exact hb kV doc pm an _ ct us hl
  · exact absurd rfl e
end
/-- the tables for the runs -/
abbrev tabs0 (ts : List ((Addr × Addr) × Str)) : List Cell := ts.map fun t => .tab t.1.2 t.2
section
open PySem.W
theorem law_endT {l : OpenLaw} {k : Nat} {q : Program} {loose : List Str} {XP : (Str → Option Value) → Heap → Prop} {YP : World → Heap → Prop} {d : DefRec} (ts : List ((Addr × Addr) × Str)) (hnd : (ts.map (·.1.2)).Nodup) (hn : l.most = some 63) (hdf : d.params.defaults = []) (hr : Room k callerA)
    (G : ∀ (w : World) (mg : Str → Option Value) (fa : Addr) (h : Heap), YP w h → h.Ns mainGlobals mg → mg d.name = some (.ref fa) →
      ∃ (K : Frag) (F : Fn), K.In h ∧ TabF K h (ts.map (·.1)) ∧ (∀ base : Heap, K.In base → base.Ns mainGlobals mg → (∀ p ∈ ts.map (·.1), LamX.TabB base mg p.1 p.2) → FnC l.prog w K mg base k fa 1 [] F) ∧ ∀ ns : List Int, ns.length ≤ 63 → (∀ z ∈ ns, Builtin.Int.intBits z ≤ 1048576) → ∃ st, F [.lsF (ns.map .int)] (tabs0 ts) = .ret (.sh (.bl true)) st) :
    WalkO q loose XP YP l.row.toRowW d [] (fun f vs => PySem.call f vs) := by
  refine Att.attach_callB hn hdf fun w s₀ s₁ mg mb fa o pm cd doc a vs ns Gr Y ho hd hcd hmg hobj hints hlen hbits hgen => ?_
  obtain ⟨K, F, KX, TF, hF, hend⟩ := G w mg fa _ Y Gr.T.g hmg
  obtain ⟨store', hret⟩ := hend ns hlen hbits
  have rv := vals_ints hints
  have hsz : (ns.map V.int).length ≤ sizeLine := by rw [List.length_map]; exact Nat.le_trans hlen (by decide)
  obtain ⟨φ, hφ⟩ : ∃ φ : List Addr, φ = ts.map (·.1.2) := ⟨_, rfl⟩
  have memφ : ∀ b ∈ φ, ∃ c, (c, b) ∈ ts.map (·.1) := fun b hb => by
    rw [hφ] at hb
    obtain ⟨t, ht, e⟩ := List.mem_map.mp hb
    exact ⟨t.1.1, List.mem_map.mpr ⟨t, ht, by rw [← e]⟩⟩
  have isT : ∀ b ∈ φ, s₁.heap.get? b = some { cls := .none, data := .fields #[] } := fun b hb => by
    obtain ⟨c, hc⟩ := memφ b hb
    exact (TF _ hc).2.2
  have noK : ∀ b ∈ φ, K.lookup b = none := fun b hb => by
    obtain ⟨c, hc⟩ := memφ b hb
    exact (TF _ hc).1
  have aT : a ∉ φ := fun z => by
    have q := isT a z
    rw [hobj] at q
    have z' : Data.seq vs.toArray _ = Data.fields #[] := congrArg Obj.data (Option.some.inj q)
    cases z'
  obtain ⟨I, hI⟩ : ∃ I : Hp, I = fun b => if b = a ∧ K.lookup a = none then some (HO.frz { cls := .type "list", data := .seq vs.toArray } (.lst (ns.map V.int))) else none := ⟨_, rfl⟩
  obtain ⟨S, hS⟩ : ∃ S : Hp, S = fun b => if b ∈ φ then some (.tbl #[]) else I b := ⟨_, rfl⟩
  have atI : ∀ b u, I b = some u → b = a ∧ K.lookup a = none ∧ u = .frz { cls := .type "list", data := .seq vs.toArray } (.lst (ns.map V.int)) := fun b u e => by
    subst hI
    by_cases c : b = a ∧ K.lookup a = none
    · exact ⟨c.1, c.2, (Option.some.inj ((if_pos c).symm.trans e)).symm⟩
    · exact absurd ((if_neg c).symm.trans e) (fun z => nomatch z)
  have ST : ∀ b, b ∈ φ → S b = some (.tbl #[]) := fun b hb => by rw [hS]; exact if_pos hb
  have SI : ∀ b, b ∉ φ → S b = I b := fun b hb => by rw [hS]; exact if_neg hb
  have IT : ∀ b, b ∈ φ → I b = none := fun b hb => by
    cases c : I b with
    | none => rfl
    | some u => exact absurd ((atI b u c).1 ▸ hb) aT
  have eIS : Ex I S := fun b u e => by
    rw [SI b fun hb => by rw [IT b hb] at e; cases e]
    exact e
  have cas : ∀ b, S b = none ∨ (b ∈ φ ∧ S b = some (.tbl #[])) ∨ (b = a ∧ K.lookup a = none ∧ S b = some (.frz { cls := .type "list", data := .seq vs.toArray } (.lst (ns.map V.int)))) := fun b => by
    by_cases hb : b ∈ φ
    · exact .inr (.inl ⟨hb, ST b hb⟩)
    · cases c : I b with
      | none => exact .inl ((SI b hb).trans c)
      | some u =>
        obtain ⟨h1, h2, h3⟩ := atI b u c
        exact .inr (.inr ⟨h1, h2, by rw [SI b hb, c, h3]⟩)
  have off : ∀ {b : Addr} {ob : Obj}, s₁.heap.get? b = some ob → (∀ z n, ob.data ≠ .seq z n) → ob.data ≠ .fields #[] → S b = none := fun {b ob} e nd nf => by
    rcases cas b with z | ⟨hb, _⟩ | ⟨rfl, _⟩
    · exact z
    · rw [isT b hb] at e
      cases e
      exact absurd rfl nf
    · rw [hobj] at e
      cases e
      exact absurd rfl (nd _ _)
  have stay : ∀ {b : Addr} {ob : Obj}, s₁.heap.get? b = some ob → S b = none → (hidT s₁.heap S).get? b = some ob := fun e n => hidT_get e n
  have names : ∀ {b : Addr} {t : Str → Option Value}, s₁.heap.Ns b t → (hidT s₁.heap S).Ns b t := fun {b t} ⟨ob, es, ep, e, dd, r⟩ => ⟨ob, es, ep, stay e (off e (fun z n c => by rw [dd] at c; cases c) fun c => by rw [dd] at c; cases c), dd, r⟩
  have KB : K.In (hidT s₁.heap S) := fun b ob e => stay (KX b ob e) (by
    rcases cas b with z | ⟨hb, _⟩ | ⟨rfl, c2, _⟩
    · exact z
    · rw [noK b hb] at e
      cases e
    · rw [c2] at e
      cases e)
  have modul : Mod K mg (hidT s₁.heap S) := by
    obtain ⟨mc, n1, n2⟩ := Gr.T.nolimit
    exact ⟨KB, names Gr.T.g, ⟨mb, names Gr.T.b, Gr.T.builtins⟩, mc, names n1, n2⟩
  have hok : HOk l.prog w S s₁.heap := fun b u c => by
    rcases cas b with z | ⟨hb, z⟩ | ⟨rfl, _, z⟩
    · rw [c] at z; cases z
    · rw [c] at z; cases z
      exact isT b hb
    · rw [c] at z; cases z
      exact ⟨hobj, hsz, vs, _, rv, hobj⟩
  have TB : ∀ p ∈ ts.map (·.1), LamX.TabB (hidT s₁.heap S) mg p.1 p.2 := fun p hp => by
    obtain ⟨_, cH, hTp⟩ := TF p hp
    refine ⟨?_, ?_, fun z => ?_⟩
    · obtain ⟨o, us, file, tf, flags, tg, inF, text, tt, e1, r1, r2, r3, r4, r5, r6, r7, r8, hne⟩ := cH
      refine ⟨o, us, file, tf, flags, tg, inF, text, tt, stay e1 (off e1 (fun vs n z => ?_) fun z => ?_), r1, r2, r3, r4, r5, r6, r7, r8, hne⟩
      · rw [r2] at z
        cases z
      · rw [r2] at z
        cases z
        simp at r3
    · obtain ⟨bm, ob, b1, b2, b3, b4, b5, b6⟩ := Gr.T.bmain
      have nG : bm ≠ mainGlobals := fun q => by
        obtain ⟨o, es, ep, e, hd, _⟩ := Gr.T.g
        rw [q, e] at b3
        cases b3
        rw [hd] at b6
        cases b6
      have nP : bm ≠ p.2 := fun q => by
        rw [q, hTp] at b3
        cases b3
        cases b6
      refine ⟨bm, ob, b1, b2, nG, nP, stay b3 (off b3 (fun vs n z => ?_) fun z => ?_), b4, b5, b6⟩
      · rw [b6] at z
        cases z
      · rw [b6] at z
        cases z
    · obtain ⟨o, es, ep, e, hd, _⟩ := Gr.T.g
      rw [z, hTp] at e
      cases e
      cases hd
  have env : Env0 l.prog w K mg (hidT s₁.heap S) callerA [] s₁ S :=
    { frames := rfl, mod := modul, bs := fun b ob e => of_hidT e, bsz := Nat.le_of_eq (hidT_size _ _), funs := trivial, frf := fun b hb => absurd (show b ∈ ([] : List Addr) from hb) List.not_mem_nil, hok := hok, bare := .of_eq hgen }
  have seen : SqL K I a (ns.map V.int) := by
    cases c : K.lookup a with
    | none => exact .inl (.inr ⟨_, by rw [hI]; exact if_pos ⟨rfl, c⟩⟩)
    | some ob =>
      have e := KX a ob c
      rw [hobj] at e
      cases e
      exact .inr ⟨_, vs.toArray, _, c, rfl, rfl, rfl, by rw [List.size_toArray, ← rv.length]; exact hsz, by simpa using rv⟩
  have asks : spOf K F [.ref a] S (fun v _ => v = .bl true) fun _ _ _ => False :=
    ⟨[.lsF (ns.map .int)], tabs0 ts, φ, I, ⟨eIS, by rw [hφ]; exact hnd, by rw [hφ]; simp [tabs0], fun i c b e1 e2 => by
      rw [hφ, List.getElem?_map] at e2
      rw [List.getElem?_map] at e1
      cases y : ts[i]? with
      | none => rw [y] at e2; cases e2
      | some t =>
        rw [y] at e1 e2
        have z1 : c = .tab t.1.2 t.2 := (Option.some.inj e1).symm
        have z2 : b = t.1.2 := (Option.some.inj e2).symm
        have hb : b ∈ φ := by
          rw [hφ, z2]
          exact List.mem_map.mpr ⟨t, List.mem_of_getElem? y, rfl⟩
        subst z1
        rw [← z2]
        exact .inr ⟨.tbl #[], ST b hb, IT b hb, .tab True.intro fun pos cv hc => by
          have z : codeAmong pos [] = some cv := hc
          simp [codeAmong] at z⟩, fun b hb => by rw [ST b hb]; simp⟩, .cons (.lsF seen (rvs_ints ns)) .nil, by
      rw [hret]
      exact fun v H' φ' I' _ hr => by cases (show Rv K φ' I' (.bl true) v from hr); rfl⟩
  refine codeAny_mono (hF _ KB (names Gr.T.g) TB callerA [] s₁ S [.ref a] [.ref a] _ _ hr rfl env (.cons rfl .nil) rfl asks) fun r s' out => ?_
  match r, out with
  | .error e, out =>
    obtain ⟨_, _, _, _, _, _, _, _, _, _, _, _, z⟩ := out
    exact z.elim
  | .ok (.ret u), ⟨v, H', os, bare, un, hok', rel, eq⟩ =>
    subst eq
    obtain rfl : u = Value.bool true := rel
    have key : ∀ b o, b ∉ φ → s₁.heap.get? b = some o → s'.heap.get? b = some o := fun b ob nb e => by
      rcases cas b with c | ⟨hb, _⟩ | ⟨rfl, _, c⟩
      · exact un.keep b ob e c (fun z => absurd (show b ∈ ([] : List Addr) from z) List.not_mem_nil) (by simp)
      · exact absurd hb nb
      · obtain ⟨e2, _⟩ := hok' b _ (un.frzs b _ _ c)
        rw [hobj] at e
        cases e
        exact e2
    have grown : ∀ b ∈ φ, ∃ more : Array Value, s'.heap.get? b = some { cls := .none, data := .fields more } := fun b hb => by
      obtain ⟨more, z⟩ := un.tbls b #[] (ST b hb)
      exact ⟨_, hok' b _ z⟩
    refine ⟨rfl, ⟨fun b ob e => ?_, fun b ob e => ?_⟩, os, bare⟩
    · by_cases hb : b ∈ φ
      · obtain ⟨c, hc⟩ := memφ b hb
        obtain ⟨more, hm⟩ := grown b hb
        rw [isT b hb] at e
        cases e
        exact .inr (.inl ⟨((TF _ hc).2.1.tab (isT b hb)).isCodeTable, rfl, #[], more, rfl, by rw [Array.empty_append]; exact hm⟩)
      · exact .inl (key b ob hb e)
    · by_cases hb : b ∈ φ
      · obtain ⟨more, hm⟩ := grown b hb
        exact ⟨_, hm⟩
      · exact ⟨ob, key b ob hb e⟩
end
end PM
set_option Elab.async false
set_option linter.all false
set_option maxRecDepth 100000
set_option maxHeartbeats 2400000
/-! is x among tuples of one text, whatever x is -/
namespace PM
open PySem PySem.Spec L2 PyProof.Rows
end PM
set_option Elab.async false
set_option linter.all false
set_option maxRecDepth 100000
set_option maxHeartbeats 4000000
namespace Lb
open PySem PySem.Spec L2 PM
def m_divisor : MS :=
  mSeq (mPar 0 1 (mUn opAbs (mV 0)) (mUn opAbs (mV 1)))
  (mSeq (mWhile (fun st => natAt st 1 + 1) (mCmp opGt (mV 1) (mL (.int 0))) (mPar 0 1 (mV 1) (mOp opMod (mV 0) (mV 1))))
  (mRet (mV 0)))
def F_divisor : Fn := runF m_divisor 0
def m_reduced : MS :=
  mSeq (mSet 2 (mCall 2 F_divisor (mCons (mV 0) (mCons (mV 1) (mNil)))))
  (mSeq (mIfS (mCmp opLt (mV 1) (mL (.int 0))) (mSet 2 (mUn opNeg (mV 2))) (mNx))
  (mRet (mTup (mCons (mOp opFdv (mV 0) (mV 2)) (mCons (mOp opFdv (mV 1) (mV 2)) (mNil))))))
def F_reduced : Fn := runF m_reduced 1
def m_is_tuple_of : MS :=
  mRet (mBl (mAnd (mB (mOp opIsi (mV 0) (mL (.val (.ty "tuple"))))) (mCmp opEq (mUn opLen (mV 0)) (mV 1))))
def F_is_tuple_of : Fn := runF m_is_tuple_of 0
def m_is_integer : MS :=
  mRet (mBl (mAnd (mB (mOp opIsi (mV 0) (mL (.val (.ty "int"))))) (mNot (mB (mOp opIsi (mV 0) (mL (.val (.ty "bool"))))))))
def F_is_integer : Fn := runF m_is_integer 0
def m_is_fraction : MS :=
  mSeq (mIfS (mOr (mNot (mB (mCall 2 F_is_tuple_of (mCons (mV 0) (mCons (mL (.int 2)) (mNil)))))) (mOr (mNot (mB (mCall 1 F_is_integer (mCons (mOp opIx (mV 0) (mL (.int 0))) (mNil))))) (mNot (mB (mCall 1 F_is_integer (mCons (mOp opIx (mV 0) (mL (.int 1))) (mNil))))))) (mRet (mL (.bl false))) (mNx))
  (mRet (mBl (mAnd (mCmp opGt (mOp opIx (mV 0) (mL (.int 1))) (mL (.int 0))) (mCmp opEq (mCall 2 F_divisor (mCons (mOp opIx (mV 0) (mL (.int 0))) (mCons (mOp opIx (mV 0) (mL (.int 1))) (mNil)))) (mL (.int 1))))))
def F_is_fraction : Fn := runF m_is_fraction 0
end Lb
set_option Elab.async false
set_option linter.all false
set_option maxRecDepth 100000
set_option maxHeartbeats 4000000
namespace Lb
open PySem PySem.Spec L2 PM
end Lb
set_option Elab.async false
set_option linter.all false
set_option maxRecDepth 100000
set_option maxHeartbeats 4000000
namespace D1
open PySem PySem.Spec L2 PM Lb
def m__law_pen : MS :=
  mRet (mNew (mDisp [(mL (.str "cells"), mUn opList (mSl (mV 0) (mNo) (mPt (mL (.int 63))))), (mL (.str "used"), mL (.int 0)), (mL (.str "left"), mL (.int 0))]))
def F__law_pen : Fn := runF m__law_pen 0
def m__law_draw (Frec : Fn) : MS :=
  mSeq (mIfS (mCmp opGt (mOp opIx (mV 0) (mL (.str "left"))) (mL (.int 0))) (mSeq (mSet 2 (mOp opMod (mOp opIx (mV 0) (mL (.str "left"))) (mV 1)))
  (mSeq (mPut (mV 0) (mL (.str "left")) (mOp opFdv (mOp opIx (mV 0) (mL (.str "left"))) (mV 1)))
  (mRet (mV 2)))) (mNx))
  (mSeq (mSet 3 (mOp opIx (mV 0) (mL (.str "used"))))
  (mSeq (mPut (mV 0) (mL (.str "used")) (mOp opAdd (mV 3) (mL (.int 1))))
  (mSeq (mSet 4 (mOp opAdd (mOp opMul (mL (.int 43)) (mV 3)) (mL (.int 7))))
  (mSeq (mIfS (mCmp opNe (mOp opIx (mV 0) (mL (.str "cells"))) (mLst (mNil))) (mSet 4 (mOp opIx (mOp opIx (mV 0) (mL (.str "cells"))) (mOp opMod (mV 3) (mUn opLen (mOp opIx (mV 0) (mL (.str "cells"))))))) (mNx))
  (mSeq (mIfS (mAnd (mCmp opLt (mV 3) (mUn opLen (mOp opIx (mV 0) (mL (.str "cells"))))) (mCmp opGe (mUn opAbs (mV 4)) (mOp opPow (mL (.int 10)) (mL (.int 18))))) (mSeq (mPut (mV 0) (mL (.str "left")) (mOp opFdv (mOp opSub (mUn opAbs (mV 4)) (mOp opPow (mL (.int 10)) (mL (.int 18)))) (mV 1)))
  (mRet (mOp opMod (mOp opSub (mUn opAbs (mV 4)) (mOp opPow (mL (.int 10)) (mL (.int 18)))) (mV 1)))) (mNx))
  (mSeq (mSet 5 (mOp opAdd (mOp opMul (mOp opMod (mV 4) (mL (.int 4294967231))) (mL (.int 1103515))) (mOp opMul (mOp opMul (mL (.int 30011)) (mV 3)) (mV 3))))
  (mSeq (mSet 5 (mOp opMod (mOp opAdd (mOp opAdd (mV 5) (mOp opMul (mL (.int 178481)) (mV 3))) (mL (.int 23))) (mL (.int 4294967197))))
  (mSeq (mSet 5 (mOp opMod (mOp opAdd (mOp opAdd (mOp opAdd (mOp opMul (mV 5) (mV 5)) (mOp opMul (mL (.int 16769023)) (mV 5))) (mOp opMul (mL (.int 5)) (mV 3))) (mL (.int 7))) (mL (.int 4294967189))))
  (mSeq (mSet 5 (mOp opFdv (mOp opMod (mOp opMul (mV 5) (mOp opAdd (mV 5) (mL (.int 28629151)))) (mL (.int 4294967291))) (mL (.int 64))))
  (mSeq (mIfS (mCmp opGt (mV 1) (mL (.int 60000000))) (mSet 5 (mOp opAdd (mV 5) (mOp opMul (mL (.int 60000000)) (mCall 2 Frec (mCons (mV 0) (mCons (mOp opAdd (mOp opFdv (mV 1) (mL (.int 60000000))) (mL (.int 1))) (mNil))))))) (mNx))
  (mRet (mOp opMod (mV 5) (mV 1)))))))))))))
def F__law_draw : Nat → Fn
  | 0 => fun _ _ => .stuck
  | n + 1 => runF (m__law_draw (F__law_draw n)) 4
def m__law_pick : MS :=
  mRet (mOp opIx (mV 1) (mCall 2 (F__law_draw 8) (mCons (mV 0) (mCons (mUn opLen (mV 1)) (mNil)))))
def F__law_pick : Fn := runF m__law_pick 0
def m__law_low : MS :=
  mSeq (mPar 2 3 (mUn opAbs (mV 0)) (mUn opAbs (mV 1)))
  (mSeq (mWhile (fun st => natAt st 3 + 1) (mCmp opGt (mV 3) (mL (.int 0))) (mPar 2 3 (mV 3) (mOp opMod (mV 2) (mV 3))))
  (mSeq (mSet 2 (mIf (mCmp opGt (mV 1) (mL (.int 0))) (mV 2) (mUn opNeg (mV 2))))
  (mRet (mTup (mCons (mOp opFdv (mV 0) (mV 2)) (mCons (mOp opFdv (mV 1) (mV 2)) (mNil)))))))
def F__law_low : Fn := runF m__law_low 2
def m__law_integer : MS :=
  mRet (mOp opSub (mCall 2 (F__law_draw 8) (mCons (mV 0) (mCons (mOp opAdd (mOp opMul (mL (.int 2)) (mV 1)) (mL (.int 1))) (mNil)))) (mV 1))
def F__law_integer : Fn := runF m__law_integer 0
def m__law_fraction : MS :=
  mSeq (mSet 1 (mCall 2 F__law_pick (mCons (mV 0) (mCons (mLst (mCons (mL (.int 3)) (mCons (mL (.int 12)) (mCons (mL (.int 1000)) (mCons (mOp opPow (mL (.int 10)) (mL (.int 30))) (mNil)))))) (mNil)))))
  (mRet (mCall 2 F__law_low (mCons (mCall 2 F__law_integer (mCons (mV 0) (mCons (mV 1) (mNil)))) (mCons (mOp opAdd (mL (.int 1)) (mCall 2 (F__law_draw 8) (mCons (mV 0) (mCons (mCall 2 F__law_pick (mCons (mV 0) (mCons (mLst (mCons (mL (.int 1)) (mCons (mL (.int 6)) (mCons (mV 1) (mNil))))) (mNil)))) (mNil))))) (mNil)))))
def F__law_fraction : Fn := runF m__law_fraction 1
end D1
set_option Elab.async false
set_option linter.all false
set_option maxRecDepth 100000
set_option maxHeartbeats 4000000
namespace D1
open PySem PySem.Spec L2 PM
def m__law_odd : MS :=
  mSeq (mSet 1 (mLst (mCons (mL .non) (mCons (mL (.bl true)) (mCons (mL (.bl false)) (mCons (mL (.int 0)) (mCons (mL (.int 1)) (mCons (mUn opNeg (mL (.int 1))) (mCons (mL (.int 2)) (mCons (mL (.int 3)) (mCons (mOp opPow (mL (.int 10)) (mL (.int 30))) (mCons (mOp opAdd (mOp opPow (mL (.int 10)) (mL (.int 30))) (mL (.int 1))) (mCons (mOp opMul (mOp opPow (mL (.int 10)) (mL (.int 49))) (mOp opPow (mL (.int 10)) (mL (.int 50)))) (mCons (mL (.str "")) (mCons (mL (.str "a")) (mCons (mL (.str "zz")) (mCons (mL (.str "A")) (mCons (mL (.str "a b")) (mNil)))))))))))))))))))
  (mSeq (mSet 1 (mOp opAdd (mV 1) (mLst (mCons (mL (.str "abcdefghi")) (mCons (mTup (mNil)) (mCons (mLst (mNil)) (mCons (mDisp []) (mCons (mTup (mCons (mL (.str "a")) (mNil))) (mCons (mLst (mCons (mL (.str "a")) (mNil))) (mCons (mTup (mCons (mL (.int 0)) (mNil))) (mCons (mTup (mCons (mL (.str "a")) (mCons (mL (.int 0)) (mNil)))) (mCons (mTup (mCons (mL (.str "a")) (mCons (mL (.str "b")) (mCons (mTup (mCons (mL (.int 0)) (mNil))) (mNil))))) (mCons (mDisp [(mL (.str "a"), mL (.int 0))]) (mCons (mTup (mCons (mL (.int 0)) (mCons (mL (.int 1)) (mNil)))) (mNil)))))))))))))))
  (mRet (mCall 2 F__law_pick (mCons (mV 0) (mCons (mOp opAdd (mV 1) (mLst (mCons (mTup (mCons (mL .non) (mCons (mL .non) (mNil)))) (mNil)))) (mNil))))))
def F__law_odd : Fn := runF m__law_odd 1
def m__law_is_integer : MS :=
  mRet (mBl (mAnd (mB (mOp opIsi (mV 0) (mL (.val (.ty "int"))))) (mNot (mB (mOp opIsi (mV 0) (mL (.val (.ty "bool"))))))))
def F__law_is_integer : Fn := runF m__law_is_integer 0
def m__law_bent (Frec : Fn) : MS :=
  mSeq (mIfS (mAnd (mB (mOp opIsi (mV 1) (mTup (mCons (mL (.val (.ty "list"))) (mCons (mL (.val (.ty "tuple"))) (mNil)))))) (mAnd (mCmp opGt (mUn opLen (mV 1)) (mL (.int 0))) (mCmp opGt (mCall 2 (F__law_draw 8) (mCons (mV 0) (mCons (mL (.int 5)) (mNil)))) (mL (.int 0))))) (mSeq (mPar 2 3 (mCall 2 (F__law_draw 8) (mCons (mV 0) (mCons (mUn opLen (mV 1)) (mNil)))) (mCall 2 (F__law_draw 8) (mCons (mV 0) (mCons (mL (.int 8)) (mNil)))))
  (mSeq (mIfS (mCmp opLt (mV 3) (mL (.int 5))) (mSeq (mSet 4 (mLst (mCons (mCall 2 Frec (mCons (mV 0) (mCons (mOp opIx (mV 1) (mV 2)) (mNil)))) (mNil))))
  (mRet (mOp opAdd (mOp opAdd (mSl (mV 1) (mNo) (mPt (mV 2))) (mIf (mB (mOp opIsi (mV 1) (mL (.val (.ty "list"))))) (mV 4) (mUn opTuple (mV 4)))) (mSl (mV 1) (mPt (mOp opAdd (mV 2) (mL (.int 1)))) (mNo))))) (mNx))
  (mSeq (mSet 5 (mLst (mCons (mOp opAdd (mSl (mV 1) (mNo) (mPt (mV 2))) (mSl (mV 1) (mPt (mOp opAdd (mV 2) (mL (.int 1)))) (mNo))) (mCons (mOp opAdd (mSl (mV 1) (mNo) (mPt (mOp opAdd (mV 2) (mL (.int 1))))) (mSl (mV 1) (mPt (mV 2)) (mNo))) (mCons (mUn opRev (mV 1)) (mNil))))))
  (mRet (mOp opIx (mV 5) (mOp opSub (mV 3) (mL (.int 5)))))))) (mNx))
  (mSeq (mIfS (mAnd (mB (mCall 1 F__law_is_integer (mCons (mV 1) (mNil)))) (mCmp opGt (mCall 2 (F__law_draw 8) (mCons (mV 0) (mCons (mL (.int 3)) (mNil)))) (mL (.int 0)))) (mRet (mCall 2 F__law_pick (mCons (mV 0) (mCons (mLst (mCons (mOp opAdd (mV 1) (mL (.int 1))) (mCons (mOp opSub (mV 1) (mL (.int 1))) (mCons (mUn opNeg (mV 1)) (mCons (mBl (mCmp opEq (mV 1) (mL (.int 1)))) (mCons (mUn opStr (mV 1)) (mCons (mTup (mCons (mV 1) (mNil))) (mNil)))))))) (mNil))))) (mNx))
  (mRet (mCall 1 F__law_odd (mCons (mV 0) (mNil)))))
def F__law_bent : Nat → Fn
  | 0 => fun _ _ => .stuck
  | n + 1 => runF (m__law_bent (F__law_bent n)) 4
end D1
set_option Elab.async false
set_option linter.all false
set_option maxRecDepth 100000
set_option maxHeartbeats 4000000
namespace A01
open PySem PySem.Spec L2 PM
open D1 (m__law_pen F__law_pen m__law_draw F__law_draw m__law_pick F__law_pick m__law_low F__law_low m__law_integer F__law_integer m__law_fraction F__law_fraction m__law_odd F__law_odd m__law_is_integer F__law_is_integer m__law_bent F__law_bent)
open Lb (m_divisor F_divisor m_reduced F_reduced m_is_integer F_is_integer m_is_tuple_of F_is_tuple_of m_is_fraction F_is_fraction)
noncomputable def m_fraction : MS :=
  mSeq (mIfS (mOr (mNot (mB (mCall 1 F_is_integer (mCons (mV 0) (mNil))))) (mOr (mNot (mB (mCall 1 F_is_integer (mCons (mV 1) (mNil))))) (mCmp opEq (mV 1) (mL (.int 0))))) (mRaise "InvalidFraction" ["value"] (mCons (mTup (mCons (mV 0) (mCons (mV 1) (mNil)))) (mNil))) (mNx))
  (mRet (mCall 2 F_reduced (mCons (mV 0) (mCons (mV 1) (mNil)))))
noncomputable def pick_fraction_0p_d_n {α : Type} : List α → List α → List α
  | [a0, a1], [b0] => [a1, a0]
  | xs, _ => xs
noncomputable def F_fraction_0p_d_n : Fn := fun ds store => runF m_fraction 0 (pick_fraction_0p_d_n ds [.int 1]) store
noncomputable def pick_fraction_0p_n {α : Type} : List α → List α → List α
  | [a0], [b0] => [a0, b0]
  | xs, _ => xs
noncomputable def F_fraction_0p_n : Fn := fun ds store => runF m_fraction 0 (pick_fraction_0p_n ds [.int 1]) store
noncomputable def pick_fraction_1p {α : Type} : List α → List α → List α
  | [a0], [b0] => [a0, b0]
  | xs, _ => xs
noncomputable def F_fraction_1p : Fn := fun ds store => runF m_fraction 0 (pick_fraction_1p ds [.int 1]) store
noncomputable def pick_fraction_2p {α : Type} : List α → List α → List α
  | [a0, a1], [b0] => [a0, a1]
  | xs, _ => xs
noncomputable def F_fraction_2p : Fn := fun ds store => runF m_fraction 0 (pick_fraction_2p ds [.int 1]) store
noncomputable def m__law_refused (v : V) (cb : List Cell → FRes) : MS :=
  mSeq (mSet 1 (mL .non))
  (mSeq (mTry (mDrop (mCb 0 v cb)) flyX [("InvalidFraction", some 2, mSet 1 (mV 2))])
  (mSeq (mIfS (mCmp opIs2 (mV 1) (mL .non)) (mRet (mL .non)) (mNx))
  (mRet (mIf (mAnd (mB (mIsiX isiX isiT isiD (mV 1) (mL (.val (.ty "ValueError"))))) (mNot (mB (mIsiX isiX isiT isiD (mV 1) (mL (.cls "InvalidText")))))) (mLst (mCons (mFldX ["InvalidFraction"] "value" (mV 1)) (mNil))) (mLst (mCons (mL (.str "odd")) (mNil)))))))
noncomputable def F__law_refused : (List Cell → FRes) → Fn := runH1 m__law_refused 2
noncomputable def m__law_refused_right : MS :=
  mSeq (mSet 2 (mBl (mAnd (mB (mCall 1 F__law_is_integer (mCons (mV 0) (mNil)))) (mAnd (mB (mCall 1 F__law_is_integer (mCons (mV 1) (mNil)))) (mCmp opNe (mV 1) (mL (.int 0)))))))
  (mSeq (mPar 3 4 (mIf (mB (mV 2)) (mL .non) (mLst (mCons (mTup (mCons (mV 0) (mCons (mV 1) (mNil)))) (mNil)))) (mIf (mB (mCall 1 F__law_is_integer (mCons (mV 0) (mNil)))) (mL .non) (mLst (mCons (mTup (mCons (mV 0) (mCons (mL (.int 1)) (mNil)))) (mNil)))))
  (mSeq (mSet 5 (mLst (mCons (mLam 0 tb__law_refused_right "_law_refused_right.<locals>.<lambda>" [0, 1] F__law_refused (mCall 2 F_fraction_2p (mCons (mV 0) (mCons (mV 1) (mNil))))) (mNil))))
  (mSeq (mDrop (mMut fApp (mV 5) (mCons (mLam 0 tb__law_refused_right "_law_refused_right.<locals>.<lambda>" [0, 1] F__law_refused (mCallK 0 2 F_fraction_0p_d_n mNil (mCons (mV 1) (mCons (mV 0) (mNil))))) (mNil))))
  (mSeq (mDrop (mMut fApp (mV 5) (mCons (mLam 0 tb__law_refused_right "_law_refused_right.<locals>.<lambda>" [0] F__law_refused (mCall 1 F_fraction_1p (mCons (mV 0) (mNil)))) (mNil))))
  (mRet (mBl (mCmp opEq (mUn opRepr (mV 5)) (mUn opRepr (mLst (mCons (mV 3) (mCons (mV 3) (mCons (mV 4) (mNil)))))))))))))
noncomputable def F__law_refused_right : Fn := runF m__law_refused_right 4
noncomputable def m__law_is_fraction : MS :=
  mSeq (mIfS (mOr (mNot (mB (mOp opIsi (mV 0) (mL (.val (.ty "tuple")))))) (mCmp opNe (mUn opLen (mV 0)) (mL (.int 2)))) (mRet (mL (.bl false))) (mNx))
  (mSeq (mIfS (mOr (mNot (mB (mCall 1 F__law_is_integer (mCons (mOp opIx (mV 0) (mL (.int 0))) (mNil))))) (mOr (mNot (mB (mCall 1 F__law_is_integer (mCons (mOp opIx (mV 0) (mL (.int 1))) (mNil))))) (mCmp opLt (mOp opIx (mV 0) (mL (.int 1))) (mL (.int 1))))) (mRet (mL (.bl false))) (mNx))
  (mRet (mBl (mCmp opEq (mV 0) (mCall 2 F__law_low (mCons (mOp opIx (mV 0) (mL (.int 0))) (mCons (mOp opIx (mV 0) (mL (.int 1))) (mNil))))))))
noncomputable def F__law_is_fraction : Fn := runF m__law_is_fraction 0
noncomputable def m_law : MS :=
  mSeq (mSet 1 (mCall 1 F__law_pen (mCons (mV 0) (mNil))))
  (mSeq (mFor (mRg1 (mL (.int 12))) (gN 2) (mSeq (mSet 3 (mCall 2 F__law_pick (mCons (mV 1) (mCons (mLst (mCons (mL (.int 4)) (mCons (mL (.int 30)) (mCons (mOp opPow (mL (.int 10)) (mL (.int 30))) (mNil))))) (mNil)))))
  (mSeq (mPar 4 5 (mCall 2 F__law_integer (mCons (mV 1) (mCons (mV 3) (mNil)))) (mCall 2 F__law_integer (mCons (mV 1) (mCons (mV 3) (mNil)))))
  (mSeq (mIfS (mAnd (mCmp opNe (mV 5) (mL (.int 0))) (mCmp opNe (mUn opRepr (mCall 2 F_fraction_2p (mCons (mV 4) (mCons (mV 5) (mNil))))) (mUn opRepr (mCall 2 F__law_low (mCons (mV 4) (mCons (mV 5) (mNil))))))) (mRet (mL (.bl false))) (mNx))
  (mSeq (mIfS (mAnd (mCmp opNe (mV 5) (mL (.int 0))) (mCmp opNe (mUn opRepr (mCallK 0 2 F_fraction_0p_d_n mNil (mCons (mV 5) (mCons (mV 4) (mNil))))) (mUn opRepr (mCall 2 F__law_low (mCons (mV 4) (mCons (mV 5) (mNil))))))) (mRet (mL (.bl false))) (mNx))
  (mSeq (mIfS (mOr (mCmp opNe (mUn opRepr (mCall 1 F_fraction_1p (mCons (mV 4) (mNil)))) (mUn opRepr (mTup (mCons (mV 4) (mCons (mL (.int 1)) (mNil)))))) (mCmp opNe (mUn opRepr (mCallK 0 1 F_fraction_0p_n mNil (mCons (mV 4) (mNil)))) (mUn opRepr (mTup (mCons (mV 4) (mCons (mL (.int 1)) (mNil))))))) (mRet (mL (.bl false))) (mNx))
  (mSeq (mIfS (mCmp opNe (mUn opRepr (mCall 2 F_fraction_2p (mCons (mV 4) (mCons (mOp opAdd (mL (.int 1)) (mUn opAbs (mV 5))) (mNil))))) (mUn opRepr (mCall 2 F__law_low (mCons (mV 4) (mCons (mOp opAdd (mL (.int 1)) (mUn opAbs (mV 5))) (mNil)))))) (mRet (mL (.bl false))) (mNx))
  (mSeq (mFor (mIt (mTup (mCons (mTup (mCons (mV 4) (mCons (mL (.int 0)) (mNil)))) (mCons (mTup (mCons (mCall 1 F__law_odd (mCons (mV 1) (mNil))) (mCons (mV 5) (mNil)))) (mCons (mTup (mCons (mV 4) (mCons (mCall 1 F__law_odd (mCons (mV 1) (mNil))) (mNil)))) (mCons (mTup (mCons (mCall 1 F__law_odd (mCons (mV 1) (mNil))) (mCons (mCall 1 F__law_odd (mCons (mV 1) (mNil))) (mNil)))) (mNil))))))) (gT 2 (gsCons (gN 6) (gsCons (gN 7) (gsNil)))) (mIfS (mNot (mB (mCall 2 F__law_refused_right (mCons (mV 6) (mCons (mV 7) (mNil)))))) (mRet (mL (.bl false))) (mNx)))
  (mSeq (mSet 8 (mCall 1 F__law_fraction (mCons (mV 1) (mNil))))
  (mSeq (mSet 9 (mOp opAdd (mLst (mCons (mV 8) (mCons (mTup (mCons (mV 4) (mCons (mV 5) (mNil)))) (mCons (mTup (mCons (mOp opMul (mL (.int 2)) (mV 4)) (mCons (mL (.int 2)) (mNil)))) (mCons (mLst (mCons (mV 4) (mCons (mL (.int 1)) (mNil)))) (mCons (mCall 1 F__law_odd (mCons (mV 1) (mNil))) (mNil))))))) (mComp [10] (mRg1 (mL (.int 6))) (gN 10) (mYes) (mCall 2 (F__law_bent 4) (mCons (mV 1) (mCons (mV 8) (mNil)))))))
  (mFor (mIt (mV 9)) (gN 11) (mIfS (mCmp opNe (mUn opRepr (mCall 1 F_is_fraction (mCons (mV 11) (mNil)))) (mUn opRepr (mCall 1 F__law_is_fraction (mCons (mV 11) (mNil))))) (mRet (mL (.bl false))) (mNx)))))))))))))
  (mRet (mL (.bl true))))
noncomputable def F_law : Fn := runF m_law 11
end A01
set_option Elab.async false
set_option linter.all false
set_option maxRecDepth 100000
set_option maxHeartbeats 4000000
namespace A01
open PySem PySem.Spec L2 PM
open D1 (m__law_pen F__law_pen m__law_draw F__law_draw m__law_pick F__law_pick m__law_low F__law_low m__law_integer F__law_integer m__law_fraction F__law_fraction m__law_odd F__law_odd m__law_is_integer F__law_is_integer m__law_bent F__law_bent)
open Lb (m_divisor F_divisor m_reduced F_reduced m_is_integer F_is_integer m_is_tuple_of F_is_tuple_of m_is_fraction F_is_fraction)
theorem sc__law_pen : FnScope ["_law_script"] ["_law_script"] (defScope tp__law_pen) := ⟨rfl, rfl, rfl, by decide +kernel, rfl, by decide +kernel, by decide +kernel⟩
theorem sc__law_draw : FnScope ["_law_pen_here", "_law_many", "_law_digit", "_law_used", "_law_cell", "_law_blend"] ["_law_pen_here", "_law_many"] (defScope tp__law_draw) := ⟨rfl, rfl, rfl, by decide +kernel, rfl, by decide +kernel, by decide +kernel⟩
theorem sc__law_pick : FnScope ["_law_pen_here", "_law_options"] ["_law_pen_here", "_law_options"] (defScope tp__law_pick) := ⟨rfl, rfl, rfl, by decide +kernel, rfl, by decide +kernel, by decide +kernel⟩
theorem sc__law_low : FnScope ["_law_top", "_law_low_here", "_law_one", "_law_other"] ["_law_top", "_law_low_here"] (defScope tp__law_low) := ⟨rfl, rfl, rfl, by decide +kernel, rfl, by decide +kernel, by decide +kernel⟩
theorem sc__law_integer : FnScope ["_law_pen_here", "_law_bound"] ["_law_pen_here", "_law_bound"] (defScope tp__law_integer) := ⟨rfl, rfl, rfl, by decide +kernel, rfl, by decide +kernel, by decide +kernel⟩
theorem sc__law_fraction : FnScope ["_law_pen_here", "_law_bound"] ["_law_pen_here"] (defScope tp__law_fraction) := ⟨rfl, rfl, rfl, by decide +kernel, rfl, by decide +kernel, by decide +kernel⟩
theorem sc_divisor : FnScope ["one", "other"] ["one", "other"] (defScope tp_divisor) := ⟨rfl, rfl, rfl, by decide +kernel, rfl, by decide +kernel, by decide +kernel⟩
theorem sc_reduced : FnScope ["n", "d", "shared"] ["n", "d"] (defScope tp_reduced) := ⟨rfl, rfl, rfl, by decide +kernel, rfl, by decide +kernel, by decide +kernel⟩
theorem sc_is_integer : FnScope ["value"] ["value"] (defScope tp_is_integer) := ⟨rfl, rfl, rfl, by decide +kernel, rfl, by decide +kernel, by decide +kernel⟩
theorem sc_fraction : FnScope ["n", "d"] ["n", "d"] (defScope tp_fraction) := ⟨rfl, rfl, rfl, by decide +kernel, rfl, by decide +kernel, by decide +kernel⟩
theorem sc__law_odd : FnScope ["_law_pen_here", "_law_some"] ["_law_pen_here"] (defScope tp__law_odd) := ⟨rfl, rfl, rfl, by decide +kernel, rfl, by decide +kernel, by decide +kernel⟩
theorem sc__law_is_integer : FnScope ["_law_value"] ["_law_value"] (defScope tp__law_is_integer) := ⟨rfl, rfl, rfl, by decide +kernel, rfl, by decide +kernel, by decide +kernel⟩
theorem sc__law_refused : FnScope ["_law_call", "_law_caught", "e"] ["_law_call"] (defScope tp__law_refused) := ⟨rfl, rfl, rfl, by decide +kernel, rfl, by decide +kernel, by decide +kernel⟩
theorem sc__law_refused_right : FnScope ["_law_one", "_law_other", "_law_is_right", "_law_due", "_law_alone", "_law_told"] ["_law_one", "_law_other"] (defScope tp__law_refused_right) := ⟨rfl, rfl, rfl, by decide +kernel, rfl, by decide +kernel, by decide +kernel⟩
theorem sc__law_bent : FnScope ["_law_pen_here", "_law_value", "_law_at", "_law_way", "_law_inner", "_law_some"] ["_law_pen_here", "_law_value"] (defScope tp__law_bent) := ⟨rfl, rfl, rfl, by decide +kernel, rfl, by decide +kernel, by decide +kernel⟩
theorem sc_is_tuple_of : FnScope ["value", "size"] ["value", "size"] (defScope tp_is_tuple_of) := ⟨rfl, rfl, rfl, by decide +kernel, rfl, by decide +kernel, by decide +kernel⟩
theorem sc_is_fraction : FnScope ["value"] ["value"] (defScope tp_is_fraction) := ⟨rfl, rfl, rfl, by decide +kernel, rfl, by decide +kernel, by decide +kernel⟩
theorem sc__law_is_fraction : FnScope ["_law_value"] ["_law_value"] (defScope tp__law_is_fraction) := ⟨rfl, rfl, rfl, by decide +kernel, rfl, by decide +kernel, by decide +kernel⟩
theorem sc_law : FnScope ["_law_script", "_law_pen_here", "_law_turn", "_law_bound", "_law_top", "_law_low_here", "_law_one", "_law_other", "_law_good", "_law_values", "_law_k", "_law_value"] ["_law_script"] (defScope tp_law) := ⟨rfl, rfl, rfl, by decide +kernel, rfl, by decide +kernel, by decide +kernel⟩
theorem sc_x_InvalidFraction : FnScope ["self", "value"] ["self", "value"] (defScope tp_x_InvalidFraction) := ⟨rfl, rfl, rfl, by decide +kernel, rfl, by decide +kernel, by decide +kernel⟩
section
variable {P : Program} {w : World} {K : PySem.W.Frag} {mg : Str → Option Value} {base h : Heap}
theorem xc_InvalidFraction (hX : K.In h) (hG : h.Ns mainGlobals mg) (hc : SaysP fa fn K) : XcP P w K mg base 1 "InvalidFraction" ["value"] := by
  have t := xcB_ok bx_ValueError (hc.fact 58 (f := fun K => xcB "ValueError" "ValueError.__new__" "ValueError.__init__" [.type "ValueError", .type "Exception", .type "BaseException", .type "object"] "InvalidFraction" ["value"] K) rfl)
  have hm := He.free_ok hX hG (hc.fact 27 (f := fun K => (He.Fa.free "ValueError").ok K) rfl)
  obtain ⟨fd, F⟩ := hc.def_ 19 (d := d_x_InvalidFraction) rfl
  exact xc1 t F sc_x_InvalidFraction (fun cdv A outer s H E => pe_bxi t.T (bxn bp_ValueError (by rfl) hm t.vi) rfl (.inl rfl)) (fun cdv A outer s H E => ps_xst t.T (t.no _ (by simp)) rfl (.inl rfl) rfl (.inl rfl) (by decide) (by decide)) (F.bindsN fun kV doc pm an cdv ct us hl => match us, hl with | [_, _], _ => rfl)
theorem ok__law_pen (hX : K.In h) (hG : h.Ns mainGlobals mg) (hc : SaysP fa fn K) (hT : ∀ p ∈ tabsC, LamX.TabB base mg p.1 p.2) : FnC P w K mg base 1 (He.ga K "_law_pen") 1 [] F__law_pen := by
  have z_list := He.free_ok hX hG (hc.fact 21 (f := fun K => (He.Fa.free "list").ok K) rfl)
  obtain ⟨fd, F⟩ := hc.def_ 0 (d := d__law_pen) rfl
  refine fn_p F sc__law_pen rfl (fun _ _ _ _ _ _ us hl => match us, hl with | [_], _ => rfl) (fun cdv A outer s H Ee E hr hg tk => ?_)
  have hN := sc__law_pen.nd
  have hu := hu_of hr
  have hq := hq_of hr
  have hi := hi_of hr
  have hv := hv_of hr
  exact ss_one (ss_ret (sr_new (sr_disp (spr_cons (sr_str) (sr_t1 cl_list (by rfl) z_list PyProof.Rows.boot_list (sr_sl (sr_v 0) (sp_no) (sp_pt (sr_int)))) (spr_cons (sr_str) (sr_int) (spr_cons (sr_str) (sr_int) (spr_nil)))))))
theorem ok__law_draw (hX : K.In h) (hG : h.Ns mainGlobals mg) (hc : SaysP fa fn K) (hT : ∀ p ∈ tabsC, LamX.TabB base mg p.1 p.2) : ∀ n, FnC P w K mg base (1 + n) (He.ga K "_law_draw") 2 [] (F__law_draw n)
  | 0 => FnC.stuck
  | n + 1 => by
    have q__law_draw := He.glo_ok hX hG (hc.fact 1 (f := fun K => (He.Fa.glo "_law_draw").ok K) rfl)
    have k__law_draw : PySem.W.keepIn K (.ref (He.ga K "_law_draw")) = true := hc.fact 33 (f := fun K => (He.Fa.keep "_law_draw").ok K) rfl
    have z_len := He.free_ok hX hG (hc.fact 22 (f := fun K => (He.Fa.free "len").ok K) rfl)
    have z_abs := He.free_ok hX hG (hc.fact 23 (f := fun K => (He.Fa.free "abs").ok K) rfl)
    have hrec := ok__law_draw hX hG hc hT n
    obtain ⟨fd, F⟩ := hc.def_ 1 (d := d__law_draw) rfl
    refine fn_p F sc__law_draw rfl (fun _ _ _ _ _ _ us hl => match us, hl with | [_, _], _ => rfl) (fun cdv A outer s H Ee E hr hg tk => ?_)
    have hN := sc__law_draw.nd
    have hu := hu_of hr
    have hq := hq_of hr
    have hi := hi_of hr
    have hv := hv_of hr
    exact ss_cons (ss_if (st_cmp ob_gt (sr_ix hu (sr_v 0) (sr_str)) (sr_int) (by rfl)) (ss_cons (ss_set 2 hN (sr_op os_mod (sr_ix hu (sr_v 0) (sr_str)) (sr_v 1)))
          (ss_cons (ss_put hu (sr_v 0) (sr_str) (sr_op os_fdv (sr_ix hu (sr_v 0) (sr_str)) (sr_v 1)))
          (ss_one (ss_ret (sr_v 2))))) (ss_nil))
          (ss_cons (ss_set 3 hN (sr_ix hu (sr_v 0) (sr_str)))
          (ss_cons (ss_put hu (sr_v 0) (sr_str) (sr_op os_add (sr_v 3) (sr_int)))
          (ss_cons (ss_set 4 hN (sr_op os_add (sr_op os_mul (sr_int) (sr_v 3)) (sr_int)))
          (ss_cons (ss_if (st_cmp (ob_ne hq) (sr_ix hu (sr_v 0) (sr_str)) (sr_lst (sa_nil)) (by rfl)) (ss_one (ss_set 4 hN (sr_ix hu (sr_ix hu (sr_v 0) (sr_str)) (sr_op os_mod (sr_v 3) (sr_b1 cl_len (by rfl) z_len boot_len (sr_ix hu (sr_v 0) (sr_str))))))) (ss_nil))
          (ss_cons (ss_if (PW.pt (sw_and (st_cmp ob_lt (sr_v 3) (sr_b1 cl_len (by rfl) z_len boot_len (sr_ix hu (sr_v 0) (sr_str))) (by rfl)) (sw_and1 (st_cmp ob_ge (sr_b1 cl_abs (by rfl) z_abs PyProof.Rows.boot_abs (sr_v 4)) (sr_op os_pow (sr_int) (sr_int)) (by rfl))))) (ss_cons (ss_put hu (sr_v 0) (sr_str) (sr_op os_fdv (sr_op os_sub (sr_b1 cl_abs (by rfl) z_abs PyProof.Rows.boot_abs (sr_v 4)) (sr_op os_pow (sr_int) (sr_int))) (sr_v 1)))
          (ss_one (ss_ret (sr_op os_mod (sr_op os_sub (sr_b1 cl_abs (by rfl) z_abs PyProof.Rows.boot_abs (sr_v 4)) (sr_op os_pow (sr_int) (sr_int))) (sr_v 1))))) (ss_nil))
          (ss_cons (ss_set 5 hN (sr_op os_add (sr_op os_mul (sr_op os_mod (sr_v 4) (sr_int)) (sr_int)) (sr_op os_mul (sr_op os_mul (sr_int) (sr_v 3)) (sr_v 3))))
          (ss_cons (ss_set 5 hN (sr_op os_mod (sr_op os_add (sr_op os_add (sr_v 5) (sr_op os_mul (sr_int) (sr_v 3))) (sr_int)) (sr_int)))
          (ss_cons (ss_set 5 hN (sr_op os_mod (sr_op os_add (sr_op os_add (sr_op os_add (sr_op os_mul (sr_v 5) (sr_v 5)) (sr_op os_mul (sr_int) (sr_v 5))) (sr_op os_mul (sr_int) (sr_v 3))) (sr_int)) (sr_int)))
          (ss_cons (ss_set 5 hN (sr_op os_fdv (sr_op os_mod (sr_op os_mul (sr_v 5) (sr_op os_add (sr_v 5) (sr_int))) (sr_int)) (sr_int)))
          (ss_cons (ss_if (st_cmp ob_gt (sr_v 1) (sr_int) (by rfl)) (ss_one (ss_set 5 hN (sr_op os_add (sr_v 5) (sr_op os_mul (sr_int) (sr_call hrec (hr.mono (by first | decide | exact Nat.le_refl _ | exact Nat.le_trans (by decide) (Nat.le_add_right _ _))) hg tk (by rfl) q__law_draw k__law_draw (sa_cons (sr_v 0) (sa_cons (sr_op os_add (sr_op os_fdv (sr_v 1) (sr_int)) (sr_int)) (sa_nil)))))))) (ss_nil))
          (ss_one (ss_ret (sr_op os_mod (sr_v 5) (sr_v 1))))))))))))))
theorem ok__law_pick (hX : K.In h) (hG : h.Ns mainGlobals mg) (hc : SaysP fa fn K) (hT : ∀ p ∈ tabsC, LamX.TabB base mg p.1 p.2) : FnC P w K mg base 10 (He.ga K "_law_pick") 2 [] F__law_pick := by
  have q__law_draw := He.glo_ok hX hG (hc.fact 1 (f := fun K => (He.Fa.glo "_law_draw").ok K) rfl)
  have k__law_draw : PySem.W.keepIn K (.ref (He.ga K "_law_draw")) = true := hc.fact 33 (f := fun K => (He.Fa.keep "_law_draw").ok K) rfl
  have z_len := He.free_ok hX hG (hc.fact 22 (f := fun K => (He.Fa.free "len").ok K) rfl)
  have o__law_draw := ok__law_draw (P := P) (w := w) (base := base) hX hG hc hT 8
  obtain ⟨fd, F⟩ := hc.def_ 2 (d := d__law_pick) rfl
  refine fn_p F sc__law_pick rfl (fun _ _ _ _ _ _ us hl => match us, hl with | [_, _], _ => rfl) (fun cdv A outer s H Ee E hr hg tk => ?_)
  have hN := sc__law_pick.nd
  have hu := hu_of hr
  have hq := hq_of hr
  have hi := hi_of hr
  have hv := hv_of hr
  exact ss_one (ss_ret (sr_ix hu (sr_v 1) (sr_call o__law_draw (hr.mono (by decide)) hg tk (by rfl) q__law_draw k__law_draw (sa_cons (sr_v 0) (sa_cons (sr_b1 cl_len (by rfl) z_len boot_len (sr_v 1)) (sa_nil))))))
theorem ok__law_low (hX : K.In h) (hG : h.Ns mainGlobals mg) (hc : SaysP fa fn K) (hT : ∀ p ∈ tabsC, LamX.TabB base mg p.1 p.2) : FnC P w K mg base 1 (He.ga K "_law_low") 2 [] F__law_low := by
  have z_abs := He.free_ok hX hG (hc.fact 23 (f := fun K => (He.Fa.free "abs").ok K) rfl)
  obtain ⟨fd, F⟩ := hc.def_ 3 (d := d__law_low) rfl
  refine fn_p F sc__law_low rfl (fun _ _ _ _ _ _ us hl => match us, hl with | [_, _], _ => rfl) (fun cdv A outer s H Ee E hr hg tk => ?_)
  have hN := sc__law_low.nd
  have hu := hu_of hr
  have hq := hq_of hr
  have hi := hi_of hr
  have hv := hv_of hr
  exact ss_cons (ss_par 2 3 rfl hN (sr_b1 cl_abs (by rfl) z_abs PyProof.Rows.boot_abs (sr_v 0)) (sr_b1 cl_abs (by rfl) z_abs PyProof.Rows.boot_abs (sr_v 1)))
          (ss_cons (ss_while (fun st => natAt st 3 + 1) (passes_of rfl) (st_cmp ob_gt (sr_v 3) (sr_int) (by rfl)) (ss_one (ss_par 2 3 rfl hN (sr_v 3) (sr_op os_mod (sr_v 2) (sr_v 3)))))
          (ss_cons (ss_set 2 hN (sr_if (st_cmp ob_gt (sr_v 1) (sr_int) (by rfl)) (sr_v 2) (sr_un us_neg (sr_v 2))))
          (ss_one (ss_ret (sr_tup (sa_cons (sr_op os_fdv (sr_v 0) (sr_v 2)) (sa_cons (sr_op os_fdv (sr_v 1) (sr_v 2)) (sa_nil))))))))
theorem ok__law_integer (hX : K.In h) (hG : h.Ns mainGlobals mg) (hc : SaysP fa fn K) (hT : ∀ p ∈ tabsC, LamX.TabB base mg p.1 p.2) : FnC P w K mg base 10 (He.ga K "_law_integer") 2 [] F__law_integer := by
  have q__law_draw := He.glo_ok hX hG (hc.fact 1 (f := fun K => (He.Fa.glo "_law_draw").ok K) rfl)
  have k__law_draw : PySem.W.keepIn K (.ref (He.ga K "_law_draw")) = true := hc.fact 33 (f := fun K => (He.Fa.keep "_law_draw").ok K) rfl
  have o__law_draw := ok__law_draw (P := P) (w := w) (base := base) hX hG hc hT 8
  obtain ⟨fd, F⟩ := hc.def_ 4 (d := d__law_integer) rfl
  refine fn_p F sc__law_integer rfl (fun _ _ _ _ _ _ us hl => match us, hl with | [_, _], _ => rfl) (fun cdv A outer s H Ee E hr hg tk => ?_)
  have hN := sc__law_integer.nd
  have hu := hu_of hr
  have hq := hq_of hr
  have hi := hi_of hr
  have hv := hv_of hr
  exact ss_one (ss_ret (sr_op os_sub (sr_call o__law_draw (hr.mono (by decide)) hg tk (by rfl) q__law_draw k__law_draw (sa_cons (sr_v 0) (sa_cons (sr_op os_add (sr_op os_mul (sr_int) (sr_v 1)) (sr_int)) (sa_nil)))) (sr_v 1)))
theorem ok__law_fraction (hX : K.In h) (hG : h.Ns mainGlobals mg) (hc : SaysP fa fn K) (hT : ∀ p ∈ tabsC, LamX.TabB base mg p.1 p.2) : FnC P w K mg base 11 (He.ga K "_law_fraction") 1 [] F__law_fraction := by
  have q__law_pick := He.glo_ok hX hG (hc.fact 2 (f := fun K => (He.Fa.glo "_law_pick").ok K) rfl)
  have k__law_pick : PySem.W.keepIn K (.ref (He.ga K "_law_pick")) = true := hc.fact 34 (f := fun K => (He.Fa.keep "_law_pick").ok K) rfl
  have q__law_low := He.glo_ok hX hG (hc.fact 3 (f := fun K => (He.Fa.glo "_law_low").ok K) rfl)
  have k__law_low : PySem.W.keepIn K (.ref (He.ga K "_law_low")) = true := hc.fact 35 (f := fun K => (He.Fa.keep "_law_low").ok K) rfl
  have q__law_draw := He.glo_ok hX hG (hc.fact 1 (f := fun K => (He.Fa.glo "_law_draw").ok K) rfl)
  have k__law_draw : PySem.W.keepIn K (.ref (He.ga K "_law_draw")) = true := hc.fact 33 (f := fun K => (He.Fa.keep "_law_draw").ok K) rfl
  have q__law_integer := He.glo_ok hX hG (hc.fact 4 (f := fun K => (He.Fa.glo "_law_integer").ok K) rfl)
  have k__law_integer : PySem.W.keepIn K (.ref (He.ga K "_law_integer")) = true := hc.fact 36 (f := fun K => (He.Fa.keep "_law_integer").ok K) rfl
  have o__law_draw := ok__law_draw (P := P) (w := w) (base := base) hX hG hc hT 8
  have o__law_integer := ok__law_integer (P := P) (w := w) (base := base) hX hG hc hT
  have o__law_low := ok__law_low (P := P) (w := w) (base := base) hX hG hc hT
  have o__law_pick := ok__law_pick (P := P) (w := w) (base := base) hX hG hc hT
  obtain ⟨fd, F⟩ := hc.def_ 5 (d := d__law_fraction) rfl
  refine fn_p F sc__law_fraction rfl (fun _ _ _ _ _ _ us hl => match us, hl with | [_], _ => rfl) (fun cdv A outer s H Ee E hr hg tk => ?_)
  have hN := sc__law_fraction.nd
  have hu := hu_of hr
  have hq := hq_of hr
  have hi := hi_of hr
  have hv := hv_of hr
  exact ss_cons (ss_set 1 hN (sr_call o__law_pick (hr.mono (by decide)) hg tk (by rfl) q__law_pick k__law_pick (sa_cons (sr_v 0) (sa_cons (sr_lst (sa_cons (sr_int) (sa_cons (sr_int) (sa_cons (sr_int) (sa_cons (sr_op os_pow (sr_int) (sr_int)) (sa_nil)))))) (sa_nil)))))
          (ss_one (ss_ret (sr_call o__law_low (hr.mono (by decide)) hg tk (by rfl) q__law_low k__law_low (sa_cons (sr_call o__law_integer (hr.mono (by decide)) hg tk (by rfl) q__law_integer k__law_integer (sa_cons (sr_v 0) (sa_cons (sr_v 1) (sa_nil)))) (sa_cons (sr_op os_add (sr_int) (sr_call o__law_draw (hr.mono (by decide)) hg tk (by rfl) q__law_draw k__law_draw (sa_cons (sr_v 0) (sa_cons (sr_call o__law_pick (hr.mono (by decide)) hg tk (by rfl) q__law_pick k__law_pick (sa_cons (sr_v 0) (sa_cons (sr_lst (sa_cons (sr_int) (sa_cons (sr_int) (sa_cons (sr_v 1) (sa_nil))))) (sa_nil)))) (sa_nil))))) (sa_nil))))))
theorem ok_divisor (hX : K.In h) (hG : h.Ns mainGlobals mg) (hc : SaysP fa fn K) (hT : ∀ p ∈ tabsC, LamX.TabB base mg p.1 p.2) : FnC P w K mg base 1 (He.ga K "divisor") 2 [] F_divisor := by
  have z_abs := He.free_ok hX hG (hc.fact 23 (f := fun K => (He.Fa.free "abs").ok K) rfl)
  obtain ⟨fd, F⟩ := hc.def_ 6 (d := d_divisor) rfl
  refine fn_p F sc_divisor rfl (fun _ _ _ _ _ _ us hl => match us, hl with | [_, _], _ => rfl) (fun cdv A outer s H Ee E hr hg tk => ?_)
  have hN := sc_divisor.nd
  have hu := hu_of hr
  have hq := hq_of hr
  have hi := hi_of hr
  have hv := hv_of hr
  exact ss_cons (ss_par 0 1 rfl hN (sr_b1 cl_abs (by rfl) z_abs PyProof.Rows.boot_abs (sr_v 0)) (sr_b1 cl_abs (by rfl) z_abs PyProof.Rows.boot_abs (sr_v 1)))
          (ss_cons (ss_while (fun st => natAt st 1 + 1) (passes_of rfl) (st_cmp ob_gt (sr_v 1) (sr_int) (by rfl)) (ss_one (ss_par 0 1 rfl hN (sr_v 1) (sr_op os_mod (sr_v 0) (sr_v 1)))))
          (ss_one (ss_ret (sr_v 0))))
theorem ok_reduced (hX : K.In h) (hG : h.Ns mainGlobals mg) (hc : SaysP fa fn K) (hT : ∀ p ∈ tabsC, LamX.TabB base mg p.1 p.2) : FnC P w K mg base 2 (He.ga K "reduced") 2 [] F_reduced := by
  have q_divisor := He.glo_ok hX hG (hc.fact 6 (f := fun K => (He.Fa.glo "divisor").ok K) rfl)
  have k_divisor : PySem.W.keepIn K (.ref (He.ga K "divisor")) = true := hc.fact 38 (f := fun K => (He.Fa.keep "divisor").ok K) rfl
  have o_divisor := ok_divisor (P := P) (w := w) (base := base) hX hG hc hT
  obtain ⟨fd, F⟩ := hc.def_ 7 (d := d_reduced) rfl
  refine fn_p F sc_reduced rfl (fun _ _ _ _ _ _ us hl => match us, hl with | [_, _], _ => rfl) (fun cdv A outer s H Ee E hr hg tk => ?_)
  have hN := sc_reduced.nd
  have hu := hu_of hr
  have hq := hq_of hr
  have hi := hi_of hr
  have hv := hv_of hr
  exact ss_cons (ss_set 2 hN (sr_call o_divisor (hr.mono (by decide)) hg tk (by rfl) q_divisor k_divisor (sa_cons (sr_v 0) (sa_cons (sr_v 1) (sa_nil)))))
          (ss_cons (ss_if (st_cmp ob_lt (sr_v 1) (sr_int) (by rfl)) (ss_one (ss_set 2 hN (sr_un us_neg (sr_v 2)))) (ss_nil))
          (ss_one (ss_ret (sr_tup (sa_cons (sr_op os_fdv (sr_v 0) (sr_v 2)) (sa_cons (sr_op os_fdv (sr_v 1) (sr_v 2)) (sa_nil)))))))
theorem ok_is_integer (hX : K.In h) (hG : h.Ns mainGlobals mg) (hc : SaysP fa fn K) (hT : ∀ p ∈ tabsC, LamX.TabB base mg p.1 p.2) : FnC P w K mg base 1 (He.ga K "is_integer") 1 [] F_is_integer := by
  have z_int := He.free_ok hX hG (hc.fact 24 (f := fun K => (He.Fa.free "int").ok K) rfl)
  have z_isinstance := He.free_ok hX hG (hc.fact 25 (f := fun K => (He.Fa.free "isinstance").ok K) rfl)
  have z_bool := He.free_ok hX hG (hc.fact 26 (f := fun K => (He.Fa.free "bool").ok K) rfl)
  obtain ⟨fd, F⟩ := hc.def_ 8 (d := d_is_integer) rfl
  refine fn_p F sc_is_integer rfl (fun _ _ _ _ _ _ us hl => match us, hl with | [_], _ => rfl) (fun cdv A outer s H Ee E hr hg tk => ?_)
  have hN := sc_is_integer.nd
  have hu := hu_of hr
  have hq := hq_of hr
  have hi := hi_of hr
  have hv := hv_of hr
  exact ss_one (ss_ret (sb_and (sb_B (sr_b2 cl_isi (by rfl) z_isinstance PyProof.Rows.boot_isinstance (sr_v 0) (sr_ty (by rfl) z_int PyProof.Rows.boot_int))) (sb_one (sb_not (sb_B (sr_b2 cl_isi (by rfl) z_isinstance PyProof.Rows.boot_isinstance (sr_v 0) (sr_ty (by rfl) z_bool PyProof.Rows.boot_bool)))))))
theorem bo_fraction (hX : K.In h) (hG : h.Ns mainGlobals mg) (hc : SaysP fa fn K) (hT : ∀ p ∈ tabsC, LamX.TabB base mg p.1 p.2) : ∀ cdv, Bod P w K mg base 2 (He.ga K "fraction") "fraction" (defScope tp_fraction) ["n", "d"] cdv (defBody tp_fraction) m_fraction := by
  have q_is_integer := He.glo_ok hX hG (hc.fact 8 (f := fun K => (He.Fa.glo "is_integer").ok K) rfl)
  have k_is_integer : PySem.W.keepIn K (.ref (He.ga K "is_integer")) = true := hc.fact 40 (f := fun K => (He.Fa.keep "is_integer").ok K) rfl
  have q_InvalidFraction := He.glo_ok hX hG (hc.fact 19 (f := fun K => (He.Fa.glo "InvalidFraction").ok K) rfl)
  have q_reduced := He.glo_ok hX hG (hc.fact 7 (f := fun K => (He.Fa.glo "reduced").ok K) rfl)
  have k_reduced : PySem.W.keepIn K (.ref (He.ga K "reduced")) = true := hc.fact 39 (f := fun K => (He.Fa.keep "reduced").ok K) rfl
  have x_InvalidFraction := xc_InvalidFraction (P := P) (w := w) (base := base) hX hG hc
  have o_is_integer := ok_is_integer (P := P) (w := w) (base := base) hX hG hc hT
  have o_reduced := ok_reduced (P := P) (w := w) (base := base) hX hG hc hT
  refine fun cdv A outer s H Ee E hr hg tk => ?_
  have hN := sc_fraction.nd
  have hu := hu_of hr
  have hq := hq_of hr
  have hi := hi_of hr
  have hv := hv_of hr
  exact ss_cons (ss_if (PW.pt (sw_or (st_not (st_B (sr_call o_is_integer (hr.mono (by decide)) hg tk (by rfl) q_is_integer k_is_integer (sa_cons (sr_v 0) (sa_nil))))) (sw_or (st_not (st_B (sr_call o_is_integer (hr.mono (by decide)) hg tk (by rfl) q_is_integer k_is_integer (sa_cons (sr_v 1) (sa_nil))))) (sw_or1 (st_cmp (ob_eq hq) (sr_v 1) (sr_int) (by rfl)))))) (ss_one (ss_raise x_InvalidFraction (hr.mono (by decide)) rfl tk (by rfl) q_InvalidFraction (sa_cons (sr_tup (sa_cons (sr_v 0) (sa_cons (sr_v 1) (sa_nil)))) (sa_nil)))) (ss_nil))
          (ss_one (ss_ret (sr_call o_reduced (hr.mono (by decide)) hg tk (by rfl) q_reduced k_reduced (sa_cons (sr_v 0) (sa_cons (sr_v 1) (sa_nil))))))
theorem pick_fraction_0p_d_n_p {α β : Type} (R : α → β → Prop) (xs xd : List α) (ys yd : List β) (h : Paired R xs ys) (g : Paired R xd yd) : Paired R (pick_fraction_0p_d_n xs xd) (pick_fraction_0p_d_n ys yd) := by
  unfold pick_fraction_0p_d_n
  split
  · match h, g with
    | .cons h0 (.cons h1 .nil), .cons g0 .nil => exact .cons h1 (.cons h0 (.nil))
  · rename_i nx
    split
    · match h, g with
      | .cons h0 (.cons h1 .nil), .cons g0 .nil => exact absurd rfl (nx _ _ _ rfl)
    · exact h
theorem ok_fraction_0p_d_n (hX : K.In h) (hG : h.Ns mainGlobals mg) (hc : SaysP fa fn K) (hT : ∀ p ∈ tabsC, LamX.TabB base mg p.1 p.2) : FnC P w K mg base 3 (He.ga K "fraction") 0 ["d", "n"] F_fraction_0p_d_n := by
  obtain ⟨fd, F⟩ := hc.def_ 9 (d := d_fraction) rfl
  exact fn_k (m := 0) (ks := ["d", "n"]) (dd := [.int 1]) F sc_fraction (by simp [d_fraction]) pick_fraction_0p_d_n pick_fraction_0p_d_n_p (fun _ _ => .cons (.int _) (Rvs.nil)) (fun _ _ _ _ _ _ _ us its hl hi => match us, its, hl, hi with | [_, _], [_], _, _ => ⟨_, rfl, rfl⟩) (fun xs xd hl hi => match xs, xd, hl, hi with | [_, _], [_], _, _ => rfl) (bo_fraction hX hG hc hT)
theorem pick_fraction_0p_n_p {α β : Type} (R : α → β → Prop) (xs xd : List α) (ys yd : List β) (h : Paired R xs ys) (g : Paired R xd yd) : Paired R (pick_fraction_0p_n xs xd) (pick_fraction_0p_n ys yd) := by
  unfold pick_fraction_0p_n
  split
  · match h, g with
    | .cons h0 .nil, .cons g0 .nil => exact .cons h0 (.cons g0 (.nil))
  · rename_i nx
    split
    · match h, g with
      | .cons h0 .nil, .cons g0 .nil => exact absurd rfl (nx _ _ rfl)
    · exact h
theorem ok_fraction_0p_n (hX : K.In h) (hG : h.Ns mainGlobals mg) (hc : SaysP fa fn K) (hT : ∀ p ∈ tabsC, LamX.TabB base mg p.1 p.2) : FnC P w K mg base 3 (He.ga K "fraction") 0 ["n"] F_fraction_0p_n := by
  obtain ⟨fd, F⟩ := hc.def_ 9 (d := d_fraction) rfl
  exact fn_k (m := 0) (ks := ["n"]) (dd := [.int 1]) F sc_fraction (by simp [d_fraction]) pick_fraction_0p_n pick_fraction_0p_n_p (fun _ _ => .cons (.int _) (Rvs.nil)) (fun _ _ _ _ _ _ _ us its hl hi => match us, its, hl, hi with | [_], [_], _, _ => ⟨_, rfl, rfl⟩) (fun xs xd hl hi => match xs, xd, hl, hi with | [_], [_], _, _ => rfl) (bo_fraction hX hG hc hT)
theorem pick_fraction_1p_p {α β : Type} (R : α → β → Prop) (xs xd : List α) (ys yd : List β) (h : Paired R xs ys) (g : Paired R xd yd) : Paired R (pick_fraction_1p xs xd) (pick_fraction_1p ys yd) := by
  unfold pick_fraction_1p
  split
  · match h, g with
    | .cons h0 .nil, .cons g0 .nil => exact .cons h0 (.cons g0 (.nil))
  · rename_i nx
    split
    · match h, g with
      | .cons h0 .nil, .cons g0 .nil => exact absurd rfl (nx _ _ rfl)
    · exact h
theorem ok_fraction_1p (hX : K.In h) (hG : h.Ns mainGlobals mg) (hc : SaysP fa fn K) (hT : ∀ p ∈ tabsC, LamX.TabB base mg p.1 p.2) : FnC P w K mg base 3 (He.ga K "fraction") 1 [] F_fraction_1p := by
  obtain ⟨fd, F⟩ := hc.def_ 9 (d := d_fraction) rfl
  exact fn_k (m := 1) (ks := []) (dd := [.int 1]) F sc_fraction (by simp [d_fraction]) pick_fraction_1p pick_fraction_1p_p (fun _ _ => .cons (.int _) (Rvs.nil)) (fun _ _ _ _ _ _ _ us its hl hi => match us, its, hl, hi with | [_], [_], _, _ => ⟨_, rfl, rfl⟩) (fun xs xd hl hi => match xs, xd, hl, hi with | [_], [_], _, _ => rfl) (bo_fraction hX hG hc hT)
theorem pick_fraction_2p_p {α β : Type} (R : α → β → Prop) (xs xd : List α) (ys yd : List β) (h : Paired R xs ys) (g : Paired R xd yd) : Paired R (pick_fraction_2p xs xd) (pick_fraction_2p ys yd) := by
  unfold pick_fraction_2p
  split
  · match h, g with
    | .cons h0 (.cons h1 .nil), .cons g0 .nil => exact .cons h0 (.cons h1 (.nil))
  · rename_i nx
    split
    · match h, g with
      | .cons h0 (.cons h1 .nil), .cons g0 .nil => exact absurd rfl (nx _ _ _ rfl)
    · exact h
theorem ok_fraction_2p (hX : K.In h) (hG : h.Ns mainGlobals mg) (hc : SaysP fa fn K) (hT : ∀ p ∈ tabsC, LamX.TabB base mg p.1 p.2) : FnC P w K mg base 3 (He.ga K "fraction") 2 [] F_fraction_2p := by
  obtain ⟨fd, F⟩ := hc.def_ 9 (d := d_fraction) rfl
  exact fn_k (m := 2) (ks := []) (dd := [.int 1]) F sc_fraction (by simp [d_fraction]) pick_fraction_2p pick_fraction_2p_p (fun _ _ => .cons (.int _) (Rvs.nil)) (fun _ _ _ _ _ _ _ us its hl hi => match us, its, hl, hi with | [_, _], [_], _, _ => ⟨_, rfl, rfl⟩) (fun xs xd hl hi => match xs, xd, hl, hi with | [_, _], [_], _, _ => rfl) (bo_fraction hX hG hc hT)
theorem ok__law_odd (hX : K.In h) (hG : h.Ns mainGlobals mg) (hc : SaysP fa fn K) (hT : ∀ p ∈ tabsC, LamX.TabB base mg p.1 p.2) : FnC P w K mg base 11 (He.ga K "_law_odd") 1 [] F__law_odd := by
  have q__law_pick := He.glo_ok hX hG (hc.fact 2 (f := fun K => (He.Fa.glo "_law_pick").ok K) rfl)
  have k__law_pick : PySem.W.keepIn K (.ref (He.ga K "_law_pick")) = true := hc.fact 34 (f := fun K => (He.Fa.keep "_law_pick").ok K) rfl
  have o__law_pick := ok__law_pick (P := P) (w := w) (base := base) hX hG hc hT
  obtain ⟨fd, F⟩ := hc.def_ 10 (d := d__law_odd) rfl
  refine fn_p F sc__law_odd rfl (fun _ _ _ _ _ _ us hl => match us, hl with | [_], _ => rfl) (fun cdv A outer s H Ee E hr hg tk => ?_)
  have hN := sc__law_odd.nd
  have hu := hu_of hr
  have hq := hq_of hr
  have hi := hi_of hr
  have hv := hv_of hr
  exact ss_cons (ss_set 1 hN (sr_lst (sa_cons (sr_non) (sa_cons (sr_bl) (sa_cons (sr_bl) (sa_cons (sr_int) (sa_cons (sr_int) (sa_cons (sr_un us_neg (sr_int)) (sa_cons (sr_int) (sa_cons (sr_int) (sa_cons (sr_op os_pow (sr_int) (sr_int)) (sa_cons (sr_op os_add (sr_op os_pow (sr_int) (sr_int)) (sr_int)) (sa_cons (sr_op os_mul (sr_op os_pow (sr_int) (sr_int)) (sr_op os_pow (sr_int) (sr_int))) (sa_cons (sr_str) (sa_cons (sr_str) (sa_cons (sr_str) (sa_cons (sr_str) (sa_cons (sr_str) (sa_nil)))))))))))))))))))
          (ss_cons (ss_set 1 hN (sr_op os_add (sr_v 1) (sr_lst (sa_cons (sr_str) (sa_cons (sr_tup (sa_nil)) (sa_cons (sr_lst (sa_nil)) (sa_cons (sr_disp0) (sa_cons (sr_tup (sa_cons (sr_str) (sa_nil))) (sa_cons (sr_lst (sa_cons (sr_str) (sa_nil))) (sa_cons (sr_tup (sa_cons (sr_int) (sa_nil))) (sa_cons (sr_tup (sa_cons (sr_str) (sa_cons (sr_int) (sa_nil)))) (sa_cons (sr_tup (sa_cons (sr_str) (sa_cons (sr_str) (sa_cons (sr_tup (sa_cons (sr_int) (sa_nil))) (sa_nil))))) (sa_cons (sr_disp (spr_cons (sr_str) (sr_int) (spr_nil))) (sa_cons (sr_tup (sa_cons (sr_int) (sa_cons (sr_int) (sa_nil)))) (sa_nil)))))))))))))))
          (ss_one (ss_ret (sr_call o__law_pick (hr.mono (by decide)) hg tk (by rfl) q__law_pick k__law_pick (sa_cons (sr_v 0) (sa_cons (sr_op os_add (sr_v 1) (sr_lst (sa_cons (sr_tup (sa_cons (sr_non) (sa_cons (sr_non) (sa_nil)))) (sa_nil)))) (sa_nil)))))))
theorem ok__law_is_integer (hX : K.In h) (hG : h.Ns mainGlobals mg) (hc : SaysP fa fn K) (hT : ∀ p ∈ tabsC, LamX.TabB base mg p.1 p.2) : FnC P w K mg base 1 (He.ga K "_law_is_integer") 1 [] F__law_is_integer := by
  have z_int := He.free_ok hX hG (hc.fact 24 (f := fun K => (He.Fa.free "int").ok K) rfl)
  have z_isinstance := He.free_ok hX hG (hc.fact 25 (f := fun K => (He.Fa.free "isinstance").ok K) rfl)
  have z_bool := He.free_ok hX hG (hc.fact 26 (f := fun K => (He.Fa.free "bool").ok K) rfl)
  obtain ⟨fd, F⟩ := hc.def_ 11 (d := d__law_is_integer) rfl
  refine fn_p F sc__law_is_integer rfl (fun _ _ _ _ _ _ us hl => match us, hl with | [_], _ => rfl) (fun cdv A outer s H Ee E hr hg tk => ?_)
  have hN := sc__law_is_integer.nd
  have hu := hu_of hr
  have hq := hq_of hr
  have hi := hi_of hr
  have hv := hv_of hr
  exact ss_one (ss_ret (sb_and (sb_B (sr_b2 cl_isi (by rfl) z_isinstance PyProof.Rows.boot_isinstance (sr_v 0) (sr_ty (by rfl) z_int PyProof.Rows.boot_int))) (sb_one (sb_not (sb_B (sr_b2 cl_isi (by rfl) z_isinstance PyProof.Rows.boot_isinstance (sr_v 0) (sr_ty (by rfl) z_bool PyProof.Rows.boot_bool)))))))
theorem ok__law_refused (hX : K.In h) (hG : h.Ns mainGlobals mg) (hc : SaysP fa fn K) (hT : ∀ p ∈ tabsC, LamX.TabB base mg p.1 p.2) : ∀ n, FnH P w K mg base ((0 + n) + 1) (He.ga K "_law_refused") F__law_refused := by
  intro n
  have q_InvalidFraction := He.glo_ok hX hG (hc.fact 19 (f := fun K => (He.Fa.glo "InvalidFraction").ok K) rfl)
  have q_InvalidText := He.glo_ok hX hG (hc.fact 20 (f := fun K => (He.Fa.glo "InvalidText").ok K) rfl)
  have z_ValueError := He.free_ok hX hG (hc.fact 27 (f := fun K => (He.Fa.free "ValueError").ok K) rfl)
  have z_isinstance := He.free_ok hX hG (hc.fact 25 (f := fun K => (He.Fa.free "isinstance").ok K) rfl)
  have w_exm_InvalidFraction : exmAB flyX "InvalidFraction" K = true := hc.fact 51 (f := fun K => exmAB flyX "InvalidFraction" K) rfl
  have w_isiX : isiXB isiX K = true := hc.fact 52 (f := fun K => isiXB isiX K) rfl
  have w_isiT : isiTB isiT K = true := hc.fact 53 (f := fun K => isiTB isiT K) rfl
  have w_isiD : isiDAB isiD K = true := hc.fact 54 (f := fun K => isiDAB isiD K) rfl
  have w_xf_InvalidFraction_value : xfB "InvalidFraction" "value" K = true := hc.fact 55 (f := fun K => xfB "InvalidFraction" "value" K) rfl
  obtain ⟨fd, F⟩ := hc.def_ 12 (d := d__law_refused) rfl
  refine fn_h F sc__law_refused (fun _ _ _ _ _ _ us hl => match us, hl with | [_], _ => rfl) (fun cdv A outer s H Ee E v cb hr hg tk hcb => ?_)
  have hN := sc__law_refused.nd
  have hu := hu_of hr
  have hq := hq_of hr
  have hi := hi_of hr
  have hv := hv_of hr
  exact ss_cons (ss_set 1 hN (sr_non))
          (ss_cons (ss_try rfl rfl hN tk (fun W0 pn0 xe0 tk0 hp0 => ss_one (ss_expr (hcb _ _ _ 0 _ _ _ tk0 (by rfl) (by first | exact Or.inl rfl | exact Or.inr (Or.inl rfl) | exact Or.inr (Or.inr rfl)) (by decide) (by decide)))) (HsOk.as rfl rfl ⟨by rfl, by decide, .inl q_InvalidFraction⟩ (exmAB_ok w_exm_InvalidFraction) (fun a0 pn0 => ss_one (ss_set 1 hN (sr_v 2))) (HsOk.nil)))
          (ss_cons (ss_if (st_cmp ob_is2 (sr_v 1) (sr_non) (by rfl)) (ss_one (ss_ret (sr_non))) (ss_nil))
          (ss_one (ss_ret (sr_if (PW.pt (sw_and (st_B (sr_isiX (isiXB_ok w_isiX) (isiTB_ok w_isiT (List.forall_mem_nil _)) (isiDAB_ok w_isiD) (by rfl) z_isinstance PyProof.Rows.boot_isinstance (sr_v 1) (sr_ty (by rfl) z_ValueError bp_ValueError.hv))) (sw_and1 (st_not (st_B (sr_isiX (isiXB_ok w_isiX) (isiTB_ok w_isiT (List.forall_mem_nil _)) (isiDAB_ok w_isiD) (by rfl) z_isinstance PyProof.Rows.boot_isinstance (sr_v 1) (sr_cls (by rfl) q_InvalidText))))))) (sr_lst (sa_cons (sr_fldX (List.forall_mem_cons.mpr ⟨w_xf_InvalidFraction_value, (List.forall_mem_nil _)⟩) (sr_v 1)) (sa_nil))) (sr_lst (sa_cons (sr_str) (sa_nil))))))))
theorem ok__law_refused_right (hX : K.In h) (hG : h.Ns mainGlobals mg) (hc : SaysP fa fn K) (hT : ∀ p ∈ tabsC, LamX.TabB base mg p.1 p.2) : FnC P w K mg base 6 (He.ga K "_law_refused_right") 2 [] F__law_refused_right := by
  have q__law_is_integer := He.glo_ok hX hG (hc.fact 11 (f := fun K => (He.Fa.glo "_law_is_integer").ok K) rfl)
  have k__law_is_integer : PySem.W.keepIn K (.ref (He.ga K "_law_is_integer")) = true := hc.fact 43 (f := fun K => (He.Fa.keep "_law_is_integer").ok K) rfl
  have q__law_refused := He.glo_ok hX hG (hc.fact 12 (f := fun K => (He.Fa.glo "_law_refused").ok K) rfl)
  have k__law_refused : PySem.W.keepIn K (.ref (He.ga K "_law_refused")) = true := hc.fact 44 (f := fun K => (He.Fa.keep "_law_refused").ok K) rfl
  have q_fraction := He.glo_ok hX hG (hc.fact 9 (f := fun K => (He.Fa.glo "fraction").ok K) rfl)
  have k_fraction : PySem.W.keepIn K (.ref (He.ga K "fraction")) = true := hc.fact 41 (f := fun K => (He.Fa.keep "fraction").ok K) rfl
  have z_repr := He.free_ok hX hG (hc.fact 28 (f := fun K => (He.Fa.free "repr").ok K) rfl)
  have w_code__law_refused_right : codeB (fun K => He.ga K "_law_refused_right") tc__law_refused_right K = true := hc.fact 56 (f := fun K => codeB (fun K => He.ga K "_law_refused_right") tc__law_refused_right K) rfl
  have w_sys : sysB K = true := hc.fact 57 (f := fun K => sysB K) rfl
  have o__law_is_integer := ok__law_is_integer (P := P) (w := w) (base := base) hX hG hc hT
  have o_fraction_0p_d_n := ok_fraction_0p_d_n (P := P) (w := w) (base := base) hX hG hc hT
  have o_fraction_1p := ok_fraction_1p (P := P) (w := w) (base := base) hX hG hc hT
  have o_fraction_2p := ok_fraction_2p (P := P) (w := w) (base := base) hX hG hc hT
  obtain ⟨fd, F⟩ := hc.def_ 13 (d := d__law_refused_right) rfl
  refine fn_pT w_code__law_refused_right F sc__law_refused_right rfl (fun _ _ _ _ _ _ us hl => match us, hl with | [_, _], _ => rfl) (fun A outer s H Ee E hr hg tk => ?_)
  have hN := sc__law_refused_right.nd
  have hu := hu_of hr
  have hq := hq_of hr
  have hi := hi_of hr
  have hv := hv_of hr
  exact ss_cons (ss_set 2 hN (sb_and (sb_B (sr_call o__law_is_integer (hr.mono (by decide)) hg tk (by rfl) q__law_is_integer k__law_is_integer (sa_cons (sr_v 0) (sa_nil)))) (sb_and (sb_B (sr_call o__law_is_integer (hr.mono (by decide)) hg tk (by rfl) q__law_is_integer k__law_is_integer (sa_cons (sr_v 1) (sa_nil)))) (sb_one (sr_cmp (ob_ne hq) (sr_v 1) (sr_int) (by rfl))))))
          (ss_cons (ss_par 3 4 rfl hN (sr_if (st_B (sr_v 2)) (sr_non) (sr_lst (sa_cons (sr_tup (sa_cons (sr_v 0) (sa_cons (sr_v 1) (sa_nil)))) (sa_nil)))) (sr_if (st_B (sr_call o__law_is_integer (hr.mono (by decide)) hg tk (by rfl) q__law_is_integer k__law_is_integer (sa_cons (sr_v 0) (sa_nil)))) (sr_non) (sr_lst (sa_cons (sr_tup (sa_cons (sr_v 0) (sa_cons (sr_int) (sa_nil)))) (sa_nil)))))
          (ss_cons (ss_set 5 hN (sr_lst (sa_cons (sr_lam (k := 3) (ok__law_refused hX hG hc hT 4) (hr.mono (by decide)) hg tk (by rfl) q__law_refused k__law_refused (hT (tc__law_refused_right, tb__law_refused_right) (List.mem_of_getElem? (i := 0) rfl)) rfl (by rfl) (LamX.lamS_by (by refine (show LamX.lamSB (defScope tp__law_refused_right) _ = true from ?_); decide +kernel)) (by rfl) (fun _ _ _ _ _ => rfl) (fun A outer s H E f c' E' hr hg tk => have hu := hu_of hr; have hq := hq_of hr; have hi := hi_of hr; have hv := hv_of hr; sr_call o_fraction_2p (hr.mono (by decide)) hg tk (by rfl) q_fraction k_fraction (sa_cons (sr_v 0) (sa_cons (sr_v 1) (sa_nil))))) (sa_nil))))
          (ss_cons (ss_expr (sr_mut mu_app PySem.F.slot_list_append PySem.F.type_list_append (sr_v 5) (sa_cons (sr_lam (k := 3) (ok__law_refused hX hG hc hT 4) (hr.mono (by decide)) hg tk (by rfl) q__law_refused k__law_refused (hT (tc__law_refused_right, tb__law_refused_right) (List.mem_of_getElem? (i := 0) rfl)) rfl (by rfl) (LamX.lamS_by (by refine (show LamX.lamSB (defScope tp__law_refused_right) _ = true from ?_); decide +kernel)) (by rfl) (fun _ _ _ _ _ => rfl) (fun A outer s H E f c' E' hr hg tk => have hu := hu_of hr; have hq := hq_of hr; have hi := hi_of hr; have hv := hv_of hr; sr_callK0 (ks := ["d", "n"]) o_fraction_0p_d_n (hr.mono (by decide)) hg tk (by rfl) q_fraction k_fraction (sk_cons (sr_v 1) (sk_cons (sr_v 0) (sk_nil))))) (sa_nil))))
          (ss_cons (ss_expr (sr_mut mu_app PySem.F.slot_list_append PySem.F.type_list_append (sr_v 5) (sa_cons (sr_lam (k := 3) (ok__law_refused hX hG hc hT 4) (hr.mono (by decide)) hg tk (by rfl) q__law_refused k__law_refused (hT (tc__law_refused_right, tb__law_refused_right) (List.mem_of_getElem? (i := 0) rfl)) rfl (by rfl) (LamX.lamS_by (by refine (show LamX.lamSB (defScope tp__law_refused_right) _ = true from ?_); decide +kernel)) (by rfl) (fun _ _ _ _ _ => rfl) (fun A outer s H E f c' E' hr hg tk => have hu := hu_of hr; have hq := hq_of hr; have hi := hi_of hr; have hv := hv_of hr; sr_call o_fraction_1p (hr.mono (by decide)) hg tk (by rfl) q_fraction k_fraction (sa_cons (sr_v 0) (sa_nil)))) (sa_nil))))
          (ss_one (ss_ret (sr_cmp (ob_eq hq) (sr_b1 (cl_repr w_sys hg hv) (by rfl) z_repr PyProof.Rows.boot_repr (sr_v 5)) (sr_b1 (cl_repr w_sys hg hv) (by rfl) z_repr PyProof.Rows.boot_repr (sr_lst (sa_cons (sr_v 3) (sa_cons (sr_v 3) (sa_cons (sr_v 4) (sa_nil)))))) (by rfl))))))))
theorem ok__law_bent (hX : K.In h) (hG : h.Ns mainGlobals mg) (hc : SaysP fa fn K) (hT : ∀ p ∈ tabsC, LamX.TabB base mg p.1 p.2) : ∀ n, FnC P w K mg base (12 + n) (He.ga K "_law_bent") 2 [] (F__law_bent n)
  | 0 => FnC.stuck
  | n + 1 => by
    have q__law_draw := He.glo_ok hX hG (hc.fact 1 (f := fun K => (He.Fa.glo "_law_draw").ok K) rfl)
    have k__law_draw : PySem.W.keepIn K (.ref (He.ga K "_law_draw")) = true := hc.fact 33 (f := fun K => (He.Fa.keep "_law_draw").ok K) rfl
    have q__law_bent := He.glo_ok hX hG (hc.fact 14 (f := fun K => (He.Fa.glo "_law_bent").ok K) rfl)
    have k__law_bent : PySem.W.keepIn K (.ref (He.ga K "_law_bent")) = true := hc.fact 46 (f := fun K => (He.Fa.keep "_law_bent").ok K) rfl
    have q__law_is_integer := He.glo_ok hX hG (hc.fact 11 (f := fun K => (He.Fa.glo "_law_is_integer").ok K) rfl)
    have k__law_is_integer : PySem.W.keepIn K (.ref (He.ga K "_law_is_integer")) = true := hc.fact 43 (f := fun K => (He.Fa.keep "_law_is_integer").ok K) rfl
    have q__law_pick := He.glo_ok hX hG (hc.fact 2 (f := fun K => (He.Fa.glo "_law_pick").ok K) rfl)
    have k__law_pick : PySem.W.keepIn K (.ref (He.ga K "_law_pick")) = true := hc.fact 34 (f := fun K => (He.Fa.keep "_law_pick").ok K) rfl
    have q__law_odd := He.glo_ok hX hG (hc.fact 10 (f := fun K => (He.Fa.glo "_law_odd").ok K) rfl)
    have k__law_odd : PySem.W.keepIn K (.ref (He.ga K "_law_odd")) = true := hc.fact 42 (f := fun K => (He.Fa.keep "_law_odd").ok K) rfl
    have z_tuple := He.free_ok hX hG (hc.fact 29 (f := fun K => (He.Fa.free "tuple").ok K) rfl)
    have z_list := He.free_ok hX hG (hc.fact 21 (f := fun K => (He.Fa.free "list").ok K) rfl)
    have z_isinstance := He.free_ok hX hG (hc.fact 25 (f := fun K => (He.Fa.free "isinstance").ok K) rfl)
    have z_len := He.free_ok hX hG (hc.fact 22 (f := fun K => (He.Fa.free "len").ok K) rfl)
    have z_str := He.free_ok hX hG (hc.fact 30 (f := fun K => (He.Fa.free "str").ok K) rfl)
    have o__law_draw := ok__law_draw (P := P) (w := w) (base := base) hX hG hc hT 8
    have o__law_is_integer := ok__law_is_integer (P := P) (w := w) (base := base) hX hG hc hT
    have o__law_odd := ok__law_odd (P := P) (w := w) (base := base) hX hG hc hT
    have o__law_pick := ok__law_pick (P := P) (w := w) (base := base) hX hG hc hT
    have hrec := ok__law_bent hX hG hc hT n
    obtain ⟨fd, F⟩ := hc.def_ 14 (d := d__law_bent) rfl
    refine fn_p F sc__law_bent rfl (fun _ _ _ _ _ _ us hl => match us, hl with | [_, _], _ => rfl) (fun cdv A outer s H Ee E hr hg tk => ?_)
    have hN := sc__law_bent.nd
    have hu := hu_of hr
    have hq := hq_of hr
    have hi := hi_of hr
    have hv := hv_of hr
    exact ss_cons (ss_if (PW.pt (sw_and (st_B (sr_b2 cl_isi (by rfl) z_isinstance PyProof.Rows.boot_isinstance (sr_v 1) (sr_tup (sa_cons (sr_ty (by rfl) z_list PyProof.Rows.boot_list) (sa_cons (sr_ty (by rfl) z_tuple PyProof.Rows.boot_tuple) (sa_nil)))))) (sw_and (st_cmp ob_gt (sr_b1 cl_len (by rfl) z_len boot_len (sr_v 1)) (sr_int) (by rfl)) (sw_and1 (st_cmp ob_gt (sr_call o__law_draw (hr.mono (by first | decide | exact Nat.le_refl _ | exact Nat.le_trans (by decide) (Nat.le_add_right _ _))) hg tk (by rfl) q__law_draw k__law_draw (sa_cons (sr_v 0) (sa_cons (sr_int) (sa_nil)))) (sr_int) (by rfl)))))) (ss_cons (ss_par 2 3 rfl hN (sr_call o__law_draw (hr.mono (by first | decide | exact Nat.le_refl _ | exact Nat.le_trans (by decide) (Nat.le_add_right _ _))) hg tk (by rfl) q__law_draw k__law_draw (sa_cons (sr_v 0) (sa_cons (sr_b1 cl_len (by rfl) z_len boot_len (sr_v 1)) (sa_nil)))) (sr_call o__law_draw (hr.mono (by first | decide | exact Nat.le_refl _ | exact Nat.le_trans (by decide) (Nat.le_add_right _ _))) hg tk (by rfl) q__law_draw k__law_draw (sa_cons (sr_v 0) (sa_cons (sr_int) (sa_nil)))))
          (ss_cons (ss_if (st_cmp ob_lt (sr_v 3) (sr_int) (by rfl)) (ss_cons (ss_set 4 hN (sr_lst (sa_cons (sr_call hrec (hr.mono (by first | decide | exact Nat.le_refl _ | exact Nat.le_trans (by decide) (Nat.le_add_right _ _))) hg tk (by rfl) q__law_bent k__law_bent (sa_cons (sr_v 0) (sa_cons (sr_ix hu (sr_v 1) (sr_v 2)) (sa_nil)))) (sa_nil))))
          (ss_one (ss_ret (sr_op os_add (sr_op os_add (sr_sl (sr_v 1) (sp_no) (sp_pt (sr_v 2))) (sr_if (st_B (sr_b2 cl_isi (by rfl) z_isinstance PyProof.Rows.boot_isinstance (sr_v 1) (sr_ty (by rfl) z_list PyProof.Rows.boot_list))) (sr_v 4) (sr_t1 cl_tuple (by rfl) z_tuple PyProof.Rows.boot_tuple (sr_v 4)))) (sr_sl (sr_v 1) (sp_pt (sr_op os_add (sr_v 2) (sr_int))) (sp_no)))))) (ss_nil))
          (ss_cons (ss_set 5 hN (sr_lst (sa_cons (sr_op os_add (sr_sl (sr_v 1) (sp_no) (sp_pt (sr_v 2))) (sr_sl (sr_v 1) (sp_pt (sr_op os_add (sr_v 2) (sr_int))) (sp_no))) (sa_cons (sr_op os_add (sr_sl (sr_v 1) (sp_no) (sp_pt (sr_op os_add (sr_v 2) (sr_int)))) (sr_sl (sr_v 1) (sp_pt (sr_v 2)) (sp_no))) (sa_cons (sr_rev (sr_v 1)) (sa_nil))))))
          (ss_one (ss_ret (sr_ix hu (sr_v 5) (sr_op os_sub (sr_v 3) (sr_int)))))))) (ss_nil))
          (ss_cons (ss_if (PW.pt (sw_and (st_B (sr_call o__law_is_integer (hr.mono (by first | decide | exact Nat.le_refl _ | exact Nat.le_trans (by decide) (Nat.le_add_right _ _))) hg tk (by rfl) q__law_is_integer k__law_is_integer (sa_cons (sr_v 1) (sa_nil)))) (sw_and1 (st_cmp ob_gt (sr_call o__law_draw (hr.mono (by first | decide | exact Nat.le_refl _ | exact Nat.le_trans (by decide) (Nat.le_add_right _ _))) hg tk (by rfl) q__law_draw k__law_draw (sa_cons (sr_v 0) (sa_cons (sr_int) (sa_nil)))) (sr_int) (by rfl))))) (ss_one (ss_ret (sr_call o__law_pick (hr.mono (by first | decide | exact Nat.le_refl _ | exact Nat.le_trans (by decide) (Nat.le_add_right _ _))) hg tk (by rfl) q__law_pick k__law_pick (sa_cons (sr_v 0) (sa_cons (sr_lst (sa_cons (sr_op os_add (sr_v 1) (sr_int)) (sa_cons (sr_op os_sub (sr_v 1) (sr_int)) (sa_cons (sr_un us_neg (sr_v 1)) (sa_cons (sr_cmp (ob_eq hq) (sr_v 1) (sr_int) (by rfl)) (sa_cons (sr_t1 cl_str (by rfl) z_str PyProof.Rows.boot_str (sr_v 1)) (sa_cons (sr_tup (sa_cons (sr_v 1) (sa_nil))) (sa_nil)))))))) (sa_nil)))))) (ss_nil))
          (ss_one (ss_ret (sr_call o__law_odd (hr.mono (by first | decide | exact Nat.le_refl _ | exact Nat.le_trans (by decide) (Nat.le_add_right _ _))) hg tk (by rfl) q__law_odd k__law_odd (sa_cons (sr_v 0) (sa_nil))))))
theorem ok_is_tuple_of (hX : K.In h) (hG : h.Ns mainGlobals mg) (hc : SaysP fa fn K) (hT : ∀ p ∈ tabsC, LamX.TabB base mg p.1 p.2) : FnC P w K mg base 1 (He.ga K "is_tuple_of") 2 [] F_is_tuple_of := by
  have z_tuple := He.free_ok hX hG (hc.fact 29 (f := fun K => (He.Fa.free "tuple").ok K) rfl)
  have z_isinstance := He.free_ok hX hG (hc.fact 25 (f := fun K => (He.Fa.free "isinstance").ok K) rfl)
  have z_len := He.free_ok hX hG (hc.fact 22 (f := fun K => (He.Fa.free "len").ok K) rfl)
  obtain ⟨fd, F⟩ := hc.def_ 15 (d := d_is_tuple_of) rfl
  refine fn_p F sc_is_tuple_of rfl (fun _ _ _ _ _ _ us hl => match us, hl with | [_, _], _ => rfl) (fun cdv A outer s H Ee E hr hg tk => ?_)
  have hN := sc_is_tuple_of.nd
  have hu := hu_of hr
  have hq := hq_of hr
  have hi := hi_of hr
  have hv := hv_of hr
  exact ss_one (ss_ret (sb_and (sb_B (sr_b2 cl_isi (by rfl) z_isinstance PyProof.Rows.boot_isinstance (sr_v 0) (sr_ty (by rfl) z_tuple PyProof.Rows.boot_tuple))) (sb_one (sr_cmp (ob_eq hq) (sr_b1 cl_len (by rfl) z_len boot_len (sr_v 0)) (sr_v 1) (by rfl)))))
theorem ok_is_fraction (hX : K.In h) (hG : h.Ns mainGlobals mg) (hc : SaysP fa fn K) (hT : ∀ p ∈ tabsC, LamX.TabB base mg p.1 p.2) : FnC P w K mg base 2 (He.ga K "is_fraction") 1 [] F_is_fraction := by
  have q_is_tuple_of := He.glo_ok hX hG (hc.fact 15 (f := fun K => (He.Fa.glo "is_tuple_of").ok K) rfl)
  have k_is_tuple_of : PySem.W.keepIn K (.ref (He.ga K "is_tuple_of")) = true := hc.fact 47 (f := fun K => (He.Fa.keep "is_tuple_of").ok K) rfl
  have q_is_integer := He.glo_ok hX hG (hc.fact 8 (f := fun K => (He.Fa.glo "is_integer").ok K) rfl)
  have k_is_integer : PySem.W.keepIn K (.ref (He.ga K "is_integer")) = true := hc.fact 40 (f := fun K => (He.Fa.keep "is_integer").ok K) rfl
  have q_divisor := He.glo_ok hX hG (hc.fact 6 (f := fun K => (He.Fa.glo "divisor").ok K) rfl)
  have k_divisor : PySem.W.keepIn K (.ref (He.ga K "divisor")) = true := hc.fact 38 (f := fun K => (He.Fa.keep "divisor").ok K) rfl
  have o_divisor := ok_divisor (P := P) (w := w) (base := base) hX hG hc hT
  have o_is_integer := ok_is_integer (P := P) (w := w) (base := base) hX hG hc hT
  have o_is_tuple_of := ok_is_tuple_of (P := P) (w := w) (base := base) hX hG hc hT
  obtain ⟨fd, F⟩ := hc.def_ 16 (d := d_is_fraction) rfl
  refine fn_p F sc_is_fraction rfl (fun _ _ _ _ _ _ us hl => match us, hl with | [_], _ => rfl) (fun cdv A outer s H Ee E hr hg tk => ?_)
  have hN := sc_is_fraction.nd
  have hu := hu_of hr
  have hq := hq_of hr
  have hi := hi_of hr
  have hv := hv_of hr
  exact ss_cons (ss_if (PW.pt (sw_or (st_not (st_B (sr_call o_is_tuple_of (hr.mono (by decide)) hg tk (by rfl) q_is_tuple_of k_is_tuple_of (sa_cons (sr_v 0) (sa_cons (sr_int) (sa_nil)))))) (sw_or (st_not (st_B (sr_call o_is_integer (hr.mono (by decide)) hg tk (by rfl) q_is_integer k_is_integer (sa_cons (sr_ix hu (sr_v 0) (sr_int)) (sa_nil))))) (sw_or1 (st_not (st_B (sr_call o_is_integer (hr.mono (by decide)) hg tk (by rfl) q_is_integer k_is_integer (sa_cons (sr_ix hu (sr_v 0) (sr_int)) (sa_nil))))))))) (ss_one (ss_ret (sr_bl))) (ss_nil))
          (ss_one (ss_ret (sb_and (sr_cmp ob_gt (sr_ix hu (sr_v 0) (sr_int)) (sr_int) (by rfl)) (sb_one (sr_cmp (ob_eq hq) (sr_call o_divisor (hr.mono (by decide)) hg tk (by rfl) q_divisor k_divisor (sa_cons (sr_ix hu (sr_v 0) (sr_int)) (sa_cons (sr_ix hu (sr_v 0) (sr_int)) (sa_nil)))) (sr_int) (by rfl))))))
theorem ok__law_is_fraction (hX : K.In h) (hG : h.Ns mainGlobals mg) (hc : SaysP fa fn K) (hT : ∀ p ∈ tabsC, LamX.TabB base mg p.1 p.2) : FnC P w K mg base 2 (He.ga K "_law_is_fraction") 1 [] F__law_is_fraction := by
  have q__law_is_integer := He.glo_ok hX hG (hc.fact 11 (f := fun K => (He.Fa.glo "_law_is_integer").ok K) rfl)
  have k__law_is_integer : PySem.W.keepIn K (.ref (He.ga K "_law_is_integer")) = true := hc.fact 43 (f := fun K => (He.Fa.keep "_law_is_integer").ok K) rfl
  have q__law_low := He.glo_ok hX hG (hc.fact 3 (f := fun K => (He.Fa.glo "_law_low").ok K) rfl)
  have k__law_low : PySem.W.keepIn K (.ref (He.ga K "_law_low")) = true := hc.fact 35 (f := fun K => (He.Fa.keep "_law_low").ok K) rfl
  have z_tuple := He.free_ok hX hG (hc.fact 29 (f := fun K => (He.Fa.free "tuple").ok K) rfl)
  have z_isinstance := He.free_ok hX hG (hc.fact 25 (f := fun K => (He.Fa.free "isinstance").ok K) rfl)
  have z_len := He.free_ok hX hG (hc.fact 22 (f := fun K => (He.Fa.free "len").ok K) rfl)
  have o__law_is_integer := ok__law_is_integer (P := P) (w := w) (base := base) hX hG hc hT
  have o__law_low := ok__law_low (P := P) (w := w) (base := base) hX hG hc hT
  obtain ⟨fd, F⟩ := hc.def_ 17 (d := d__law_is_fraction) rfl
  refine fn_p F sc__law_is_fraction rfl (fun _ _ _ _ _ _ us hl => match us, hl with | [_], _ => rfl) (fun cdv A outer s H Ee E hr hg tk => ?_)
  have hN := sc__law_is_fraction.nd
  have hu := hu_of hr
  have hq := hq_of hr
  have hi := hi_of hr
  have hv := hv_of hr
  exact ss_cons (ss_if (PW.pt (sw_or (st_not (st_B (sr_b2 cl_isi (by rfl) z_isinstance PyProof.Rows.boot_isinstance (sr_v 0) (sr_ty (by rfl) z_tuple PyProof.Rows.boot_tuple)))) (sw_or1 (st_cmp (ob_ne hq) (sr_b1 cl_len (by rfl) z_len boot_len (sr_v 0)) (sr_int) (by rfl))))) (ss_one (ss_ret (sr_bl))) (ss_nil))
          (ss_cons (ss_if (PW.pt (sw_or (st_not (st_B (sr_call o__law_is_integer (hr.mono (by decide)) hg tk (by rfl) q__law_is_integer k__law_is_integer (sa_cons (sr_ix hu (sr_v 0) (sr_int)) (sa_nil))))) (sw_or (st_not (st_B (sr_call o__law_is_integer (hr.mono (by decide)) hg tk (by rfl) q__law_is_integer k__law_is_integer (sa_cons (sr_ix hu (sr_v 0) (sr_int)) (sa_nil))))) (sw_or1 (st_cmp ob_lt (sr_ix hu (sr_v 0) (sr_int)) (sr_int) (by rfl)))))) (ss_one (ss_ret (sr_bl))) (ss_nil))
          (ss_one (ss_ret (sr_cmp (ob_eq hq) (sr_v 0) (sr_call o__law_low (hr.mono (by decide)) hg tk (by rfl) q__law_low k__law_low (sa_cons (sr_ix hu (sr_v 0) (sr_int)) (sa_cons (sr_ix hu (sr_v 0) (sr_int)) (sa_nil)))) (by rfl)))))
theorem ok_law (hX : K.In h) (hG : h.Ns mainGlobals mg) (hc : SaysP fa fn K) (hT : ∀ p ∈ tabsC, LamX.TabB base mg p.1 p.2) : FnC P w K mg base 17 (He.ga K "law") 1 [] F_law := by
  have q__law_pen := He.glo_ok hX hG (hc.fact 0 (f := fun K => (He.Fa.glo "_law_pen").ok K) rfl)
  have k__law_pen : PySem.W.keepIn K (.ref (He.ga K "_law_pen")) = true := hc.fact 32 (f := fun K => (He.Fa.keep "_law_pen").ok K) rfl
  have q__law_pick := He.glo_ok hX hG (hc.fact 2 (f := fun K => (He.Fa.glo "_law_pick").ok K) rfl)
  have k__law_pick : PySem.W.keepIn K (.ref (He.ga K "_law_pick")) = true := hc.fact 34 (f := fun K => (He.Fa.keep "_law_pick").ok K) rfl
  have q__law_integer := He.glo_ok hX hG (hc.fact 4 (f := fun K => (He.Fa.glo "_law_integer").ok K) rfl)
  have k__law_integer : PySem.W.keepIn K (.ref (He.ga K "_law_integer")) = true := hc.fact 36 (f := fun K => (He.Fa.keep "_law_integer").ok K) rfl
  have q_fraction := He.glo_ok hX hG (hc.fact 9 (f := fun K => (He.Fa.glo "fraction").ok K) rfl)
  have k_fraction : PySem.W.keepIn K (.ref (He.ga K "fraction")) = true := hc.fact 41 (f := fun K => (He.Fa.keep "fraction").ok K) rfl
  have q__law_low := He.glo_ok hX hG (hc.fact 3 (f := fun K => (He.Fa.glo "_law_low").ok K) rfl)
  have k__law_low : PySem.W.keepIn K (.ref (He.ga K "_law_low")) = true := hc.fact 35 (f := fun K => (He.Fa.keep "_law_low").ok K) rfl
  have q__law_odd := He.glo_ok hX hG (hc.fact 10 (f := fun K => (He.Fa.glo "_law_odd").ok K) rfl)
  have k__law_odd : PySem.W.keepIn K (.ref (He.ga K "_law_odd")) = true := hc.fact 42 (f := fun K => (He.Fa.keep "_law_odd").ok K) rfl
  have q__law_refused_right := He.glo_ok hX hG (hc.fact 13 (f := fun K => (He.Fa.glo "_law_refused_right").ok K) rfl)
  have k__law_refused_right : PySem.W.keepIn K (.ref (He.ga K "_law_refused_right")) = true := hc.fact 45 (f := fun K => (He.Fa.keep "_law_refused_right").ok K) rfl
  have q__law_fraction := He.glo_ok hX hG (hc.fact 5 (f := fun K => (He.Fa.glo "_law_fraction").ok K) rfl)
  have k__law_fraction : PySem.W.keepIn K (.ref (He.ga K "_law_fraction")) = true := hc.fact 37 (f := fun K => (He.Fa.keep "_law_fraction").ok K) rfl
  have q__law_bent := He.glo_ok hX hG (hc.fact 14 (f := fun K => (He.Fa.glo "_law_bent").ok K) rfl)
  have k__law_bent : PySem.W.keepIn K (.ref (He.ga K "_law_bent")) = true := hc.fact 46 (f := fun K => (He.Fa.keep "_law_bent").ok K) rfl
  have q_is_fraction := He.glo_ok hX hG (hc.fact 16 (f := fun K => (He.Fa.glo "is_fraction").ok K) rfl)
  have k_is_fraction : PySem.W.keepIn K (.ref (He.ga K "is_fraction")) = true := hc.fact 48 (f := fun K => (He.Fa.keep "is_fraction").ok K) rfl
  have q__law_is_fraction := He.glo_ok hX hG (hc.fact 17 (f := fun K => (He.Fa.glo "_law_is_fraction").ok K) rfl)
  have k__law_is_fraction : PySem.W.keepIn K (.ref (He.ga K "_law_is_fraction")) = true := hc.fact 49 (f := fun K => (He.Fa.keep "_law_is_fraction").ok K) rfl
  have z_range := He.free_ok hX hG (hc.fact 31 (f := fun K => (He.Fa.free "range").ok K) rfl)
  have z_repr := He.free_ok hX hG (hc.fact 28 (f := fun K => (He.Fa.free "repr").ok K) rfl)
  have z_abs := He.free_ok hX hG (hc.fact 23 (f := fun K => (He.Fa.free "abs").ok K) rfl)
  have w_sys : sysB K = true := hc.fact 57 (f := fun K => sysB K) rfl
  have o__law_bent := ok__law_bent (P := P) (w := w) (base := base) hX hG hc hT 4
  have o__law_fraction := ok__law_fraction (P := P) (w := w) (base := base) hX hG hc hT
  have o__law_integer := ok__law_integer (P := P) (w := w) (base := base) hX hG hc hT
  have o__law_is_fraction := ok__law_is_fraction (P := P) (w := w) (base := base) hX hG hc hT
  have o__law_low := ok__law_low (P := P) (w := w) (base := base) hX hG hc hT
  have o__law_odd := ok__law_odd (P := P) (w := w) (base := base) hX hG hc hT
  have o__law_pen := ok__law_pen (P := P) (w := w) (base := base) hX hG hc hT
  have o__law_pick := ok__law_pick (P := P) (w := w) (base := base) hX hG hc hT
  have o__law_refused_right := ok__law_refused_right (P := P) (w := w) (base := base) hX hG hc hT
  have o_fraction_0p_d_n := ok_fraction_0p_d_n (P := P) (w := w) (base := base) hX hG hc hT
  have o_fraction_0p_n := ok_fraction_0p_n (P := P) (w := w) (base := base) hX hG hc hT
  have o_fraction_1p := ok_fraction_1p (P := P) (w := w) (base := base) hX hG hc hT
  have o_fraction_2p := ok_fraction_2p (P := P) (w := w) (base := base) hX hG hc hT
  have o_is_fraction := ok_is_fraction (P := P) (w := w) (base := base) hX hG hc hT
  obtain ⟨fd, F⟩ := hc.def_ 18 (d := d_law) rfl
  refine fn_p F sc_law rfl (fun _ _ _ _ _ _ us hl => match us, hl with | [_], _ => rfl) (fun cdv A outer s H Ee E hr hg tk => ?_)
  have hN := sc_law.nd
  have hu := hu_of hr
  have hq := hq_of hr
  have hi := hi_of hr
  have hv := hv_of hr
  exact ss_cons (ss_set 1 hN (sr_call o__law_pen (hr.mono (by decide)) hg tk (by rfl) q__law_pen k__law_pen (sa_cons (sr_v 0) (sa_nil))))
          (ss_cons (ss_for (passes_of rfl) rfl (si_rg1 (by rfl) z_range (sr_int)) (sg_n 2 hN) (ss_cons (ss_set 3 hN (sr_call o__law_pick (hr.mono (by decide)) hg tk (by rfl) q__law_pick k__law_pick (sa_cons (sr_v 1) (sa_cons (sr_lst (sa_cons (sr_int) (sa_cons (sr_int) (sa_cons (sr_op os_pow (sr_int) (sr_int)) (sa_nil))))) (sa_nil)))))
          (ss_cons (ss_par 4 5 rfl hN (sr_call o__law_integer (hr.mono (by decide)) hg tk (by rfl) q__law_integer k__law_integer (sa_cons (sr_v 1) (sa_cons (sr_v 3) (sa_nil)))) (sr_call o__law_integer (hr.mono (by decide)) hg tk (by rfl) q__law_integer k__law_integer (sa_cons (sr_v 1) (sa_cons (sr_v 3) (sa_nil)))))
          (ss_cons (ss_if (PW.pt (sw_and (st_cmp (ob_ne hq) (sr_v 5) (sr_int) (by rfl)) (sw_and1 (st_cmp (ob_ne hq) (sr_b1 (cl_repr w_sys hg hv) (by rfl) z_repr PyProof.Rows.boot_repr (sr_call o_fraction_2p (hr.mono (by decide)) hg tk (by rfl) q_fraction k_fraction (sa_cons (sr_v 4) (sa_cons (sr_v 5) (sa_nil))))) (sr_b1 (cl_repr w_sys hg hv) (by rfl) z_repr PyProof.Rows.boot_repr (sr_call o__law_low (hr.mono (by decide)) hg tk (by rfl) q__law_low k__law_low (sa_cons (sr_v 4) (sa_cons (sr_v 5) (sa_nil))))) (by rfl))))) (ss_one (ss_ret (sr_bl))) (ss_nil))
          (ss_cons (ss_if (PW.pt (sw_and (st_cmp (ob_ne hq) (sr_v 5) (sr_int) (by rfl)) (sw_and1 (st_cmp (ob_ne hq) (sr_b1 (cl_repr w_sys hg hv) (by rfl) z_repr PyProof.Rows.boot_repr (sr_callK0 (ks := ["d", "n"]) o_fraction_0p_d_n (hr.mono (by decide)) hg tk (by rfl) q_fraction k_fraction (sk_cons (sr_v 5) (sk_cons (sr_v 4) (sk_nil))))) (sr_b1 (cl_repr w_sys hg hv) (by rfl) z_repr PyProof.Rows.boot_repr (sr_call o__law_low (hr.mono (by decide)) hg tk (by rfl) q__law_low k__law_low (sa_cons (sr_v 4) (sa_cons (sr_v 5) (sa_nil))))) (by rfl))))) (ss_one (ss_ret (sr_bl))) (ss_nil))
          (ss_cons (ss_if (PW.pt (sw_or (st_cmp (ob_ne hq) (sr_b1 (cl_repr w_sys hg hv) (by rfl) z_repr PyProof.Rows.boot_repr (sr_call o_fraction_1p (hr.mono (by decide)) hg tk (by rfl) q_fraction k_fraction (sa_cons (sr_v 4) (sa_nil)))) (sr_b1 (cl_repr w_sys hg hv) (by rfl) z_repr PyProof.Rows.boot_repr (sr_tup (sa_cons (sr_v 4) (sa_cons (sr_int) (sa_nil))))) (by rfl)) (sw_or1 (st_cmp (ob_ne hq) (sr_b1 (cl_repr w_sys hg hv) (by rfl) z_repr PyProof.Rows.boot_repr (sr_callK0 (ks := ["n"]) o_fraction_0p_n (hr.mono (by decide)) hg tk (by rfl) q_fraction k_fraction (sk_cons (sr_v 4) (sk_nil)))) (sr_b1 (cl_repr w_sys hg hv) (by rfl) z_repr PyProof.Rows.boot_repr (sr_tup (sa_cons (sr_v 4) (sa_cons (sr_int) (sa_nil))))) (by rfl))))) (ss_one (ss_ret (sr_bl))) (ss_nil))
          (ss_cons (ss_if (st_cmp (ob_ne hq) (sr_b1 (cl_repr w_sys hg hv) (by rfl) z_repr PyProof.Rows.boot_repr (sr_call o_fraction_2p (hr.mono (by decide)) hg tk (by rfl) q_fraction k_fraction (sa_cons (sr_v 4) (sa_cons (sr_op os_add (sr_int) (sr_b1 cl_abs (by rfl) z_abs PyProof.Rows.boot_abs (sr_v 5))) (sa_nil))))) (sr_b1 (cl_repr w_sys hg hv) (by rfl) z_repr PyProof.Rows.boot_repr (sr_call o__law_low (hr.mono (by decide)) hg tk (by rfl) q__law_low k__law_low (sa_cons (sr_v 4) (sa_cons (sr_op os_add (sr_int) (sr_b1 cl_abs (by rfl) z_abs PyProof.Rows.boot_abs (sr_v 5))) (sa_nil))))) (by rfl)) (ss_one (ss_ret (sr_bl))) (ss_nil))
          (ss_cons (ss_for (passes_of rfl) rfl (si_seq (sr_tup (sa_cons (sr_tup (sa_cons (sr_v 4) (sa_cons (sr_int) (sa_nil)))) (sa_cons (sr_tup (sa_cons (sr_call o__law_odd (hr.mono (by decide)) hg tk (by rfl) q__law_odd k__law_odd (sa_cons (sr_v 1) (sa_nil))) (sa_cons (sr_v 5) (sa_nil)))) (sa_cons (sr_tup (sa_cons (sr_v 4) (sa_cons (sr_call o__law_odd (hr.mono (by decide)) hg tk (by rfl) q__law_odd k__law_odd (sa_cons (sr_v 1) (sa_nil))) (sa_nil)))) (sa_cons (sr_tup (sa_cons (sr_call o__law_odd (hr.mono (by decide)) hg tk (by rfl) q__law_odd k__law_odd (sa_cons (sr_v 1) (sa_nil))) (sa_cons (sr_call o__law_odd (hr.mono (by decide)) hg tk (by rfl) q__law_odd k__law_odd (sa_cons (sr_v 1) (sa_nil))) (sa_nil)))) (sa_nil))))))) (sg_tup rfl (sgs_cons (sg_n 6 hN) (sgs_cons (sg_n 7 hN) (sgs_nil)))) (ss_one (ss_if (st_not (st_B (sr_call o__law_refused_right (hr.mono (by decide)) hg tk (by rfl) q__law_refused_right k__law_refused_right (sa_cons (sr_v 6) (sa_cons (sr_v 7) (sa_nil)))))) (ss_one (ss_ret (sr_bl))) (ss_nil))))
          (ss_cons (ss_set 8 hN (sr_call o__law_fraction (hr.mono (by decide)) hg tk (by rfl) q__law_fraction k__law_fraction (sa_cons (sr_v 1) (sa_nil))))
          (ss_cons (ss_set 9 hN (sr_op os_add (sr_lst (sa_cons (sr_v 8) (sa_cons (sr_tup (sa_cons (sr_v 4) (sa_cons (sr_v 5) (sa_nil)))) (sa_cons (sr_tup (sa_cons (sr_op os_mul (sr_int) (sr_v 4)) (sa_cons (sr_int) (sa_nil)))) (sa_cons (sr_lst (sa_cons (sr_v 4) (sa_cons (sr_int) (sa_nil)))) (sa_cons (sr_call o__law_odd (hr.mono (by decide)) hg tk (by rfl) q__law_odd k__law_odd (sa_cons (sr_v 1) (sa_nil))) (sa_nil))))))) (sr_comp rfl hN (si_rg1 (by rfl) z_range (sr_int)) (own := [("_law_k", 10)]) (ts := [10]) (by refine (show BlkOk ["_law_script", "_law_pen_here", "_law_turn", "_law_bound", "_law_top", "_law_low_here", "_law_one", "_law_other", "_law_good", "_law_values", "_law_k", "_law_value"] (defScope tp_law) _ _ from ?_); exact ⟨rfl, by decide +kernel, by decide +kernel, by first | decide +kernel | (repeat (first | exact List.forall_mem_nil _ | refine List.forall_mem_cons.mpr ⟨by intro h; first | exact Or.inl rfl | exact Or.inr rfl | exact absurd h (by decide), ?_⟩)), by first | decide +kernel | (dsimp only; decide +kernel)⟩) (by first | decide | (dsimp only; decide)) (fun _ _ _ _ _ => sg_n 10 hN) (fun _ _ _ _ _ => sts_nil) (fun _ _ _ _ _ => sr_call o__law_bent (hr.mono (by decide)) hg takesF (by rfl) q__law_bent k__law_bent (sa_cons (sr_v 1) (sa_cons (sr_v 8) (sa_nil)))))))
          (ss_one (ss_for (passes_of rfl) rfl (si_seq (sr_v 9)) (sg_n 11 hN) (ss_one (ss_if (st_cmp (ob_ne hq) (sr_b1 (cl_repr w_sys hg hv) (by rfl) z_repr PyProof.Rows.boot_repr (sr_call o_is_fraction (hr.mono (by decide)) hg tk (by rfl) q_is_fraction k_is_fraction (sa_cons (sr_v 11) (sa_nil)))) (sr_b1 (cl_repr w_sys hg hv) (by rfl) z_repr PyProof.Rows.boot_repr (sr_call o__law_is_fraction (hr.mono (by decide)) hg tk (by rfl) q__law_is_fraction k__law_is_fraction (sa_cons (sr_v 11) (sa_nil)))) (by rfl)) (ss_one (ss_ret (sr_bl))) (ss_nil)))))))))))))))
          (ss_one (ss_ret (sr_bl))))
end
end A01
set_option Elab.async false
set_option linter.all false
set_option maxRecDepth 100000
set_option maxHeartbeats 2000000
set_option exponentiation.threshold 9000
namespace Lb
open PySem PySem.Spec L2 PM
/-! ### fractions as rational numbers -/
def fr (q : Rat) : D := .tup [.int q.num, .int (q.den : Int)]
theorem gcd_loop (s : List Cell) : ∀ (n a b : Nat), b < n → mWhileN n (mCmp opGt (mV 1) (mL (.int 0))) (mPar 0 1 (mV 1) (mOp opMod (mV 0) (mV 1))) ⟨[.sh (.int a), .sh (.int b)], s⟩ = .nx ⟨[.sh (.int (Nat.gcd a b)), .sh (.int 0)], s⟩
  | 0, _, _, h => absurd h (Nat.not_lt_zero _)
  | n + 1, a, 0, _ => by
    rw [r_whiles]
    simp [mV]
  | n + 1, a, b + 1, h => by
    have h2 : a % (b + 1) < b + 1 := Nat.mod_lt _ (Nat.succ_pos _)
    have e : ((a : Int) % ((b : Int) + 1)) = ((a % (b + 1) : Nat) : Int) := (Int.natCast_emod a (b + 1)).symm
    have hp : (0 : Int) < (b : Int) + 1 := by omega
    have ih := gcd_loop s n (b + 1) (a % (b + 1)) (by omega)
    rw [Nat.gcd_comm (b + 1), ← Nat.gcd_rec, Nat.gcd_comm] at ih
    rw [r_whiles]
    simp [mV, hp]
    rw [e]
    exact ih
theorem s_divisor (a b : Int) (s : List Cell) : F_divisor [.int a, .int b] s = .ret (.sh (.int (Int.gcd a b : Nat))) s := by
  simp [F_divisor, runF, m_divisor, entry, mV, natAt, gcd_loop]
  rfl
theorem log2_le {k : Nat} {n : Nat} (h : n < 2 ^ k) (hk : k < 9000) : n.log2 < 9000 := by
  by_cases h0 : n = 0
  · rw [h0]; decide
  · exact Nat.lt_trans ((Nat.log2_lt h0).mpr h) hk
theorem fr_divInt (n d : Int) (h0 : d ≠ 0) : fr (Rat.divInt n d) = .tup [.int (d.sign * n / (Int.gcd n d : Nat)), .int (d.natAbs / (Int.gcd n d : Nat))] := by
  unfold fr
  rw [Rat.num_divInt, Rat.den_divInt, if_neg h0, Int.gcd_comm d n]
  simp
theorem fdiv_gcd {n d : Int} (hd : d < 0) : n.fdiv (-(Int.gcd n d : Nat)) = -1 * n / (Int.gcd n d : Nat) ∧ d.fdiv (-(Int.gcd n d : Nat)) = d.natAbs / (Int.gcd n d : Nat) := by
  have g0 : 0 < Int.gcd n d := Int.gcd_pos_of_ne_zero_right _ (by omega)
  have dn : ((Int.gcd n d : Nat) : Int) ∣ n := Int.gcd_dvd_left ..
  have dd : ((Int.gcd n d : Nat) : Int) ∣ d := Int.gcd_dvd_right ..
  have f1 : n.fdiv (-(Int.gcd n d : Nat)) = -1 * n / (Int.gcd n d : Nat) := by
    obtain ⟨c, hc⟩ := dn
    generalize (Int.gcd n d : Nat) = g at *
    subst hc
    rw [Int.neg_one_mul, ← Int.mul_neg, Int.mul_ediv_cancel_left _ (by omega), show (g : Int) * c = (-c) * (-(g : Int)) by rw [Int.neg_mul_neg, Int.mul_comm], Int.mul_fdiv_cancel _ (by omega)]
  have f2 : d.fdiv (-(Int.gcd n d : Nat)) = d.natAbs / (Int.gcd n d : Nat) := by
    obtain ⟨c, hc⟩ := dd
    have e2 : (d.natAbs : Int) = -d := by omega
    rw [e2]
    generalize (Int.gcd n d : Nat) = g at *
    subst hc
    rw [← Int.mul_neg, Int.mul_ediv_cancel_left _ (by omega), show (g : Int) * c = (-c) * (-(g : Int)) by rw [Int.neg_mul_neg, Int.mul_comm], Int.mul_fdiv_cancel _ (by omega)]
  exact ⟨f1, f2⟩
theorem s_reduced (n d : Int) (s : List Cell) (h0 : d ≠ 0) (hb : d.natAbs < 2 ^ 8000) : F_reduced [.int n, .int d] s = .ret (.sh (fr (Rat.divInt n d))) s := by
  have g0 : 0 < Int.gcd n d := Int.gcd_pos_of_ne_zero_right _ h0
  have gl : Int.gcd n d ≤ d.natAbs := Nat.le_of_dvd (Int.natAbs_pos.mpr h0) (Int.gcd_dvd_natAbs_right ..)
  have lg : (Int.gcd n d).log2 < 9000 := log2_le (Nat.lt_of_le_of_lt gl hb) (by decide)
  have g1 : (0 : Int) < (Int.gcd n d : Nat) := by omega
  rw [fr_divInt n d h0]
  by_cases hd : d < 0
  · have e1 : d.sign = -1 := Int.sign_eq_neg_one_of_neg hd
    obtain ⟨f1, f2⟩ := fdiv_gcd (n := n) hd
    simp [F_reduced, runF, m_reduced, entry, mV, s_divisor, hd, opFdv_n, g1, lg, f1, f2, e1, g0]
  · have e1 : d.sign = 1 := Int.sign_eq_one_of_pos (by omega)
    have e2 : (d.natAbs : Int) = d := by omega
    simp [F_reduced, runF, m_reduced, entry, mV, s_divisor, hd, g0, lg, e1, e2]
/-! sizes -/
def Bd (k : Nat) (q : Rat) : Prop := q.num.natAbs < 2 ^ k ∧ q.den < 2 ^ k
theorem Bd.mono {k l : Nat} {q : Rat} (h : Bd k q) (hl : k ≤ l) : Bd l q := ⟨Nat.lt_of_lt_of_le h.1 (Nat.pow_le_pow_right (by decide) hl), Nat.lt_of_lt_of_le h.2 (Nat.pow_le_pow_right (by decide) hl)⟩
theorem ediv_le (a : Int) (g : Nat) (hg : 0 < g) (hd : (g : Int) ∣ a) : (a / (g : Int)).natAbs ≤ a.natAbs := by
  obtain ⟨c, rfl⟩ := hd
  rw [Int.mul_ediv_cancel_left _ (by omega), Int.natAbs_mul]
  exact Nat.le_mul_of_pos_left _ (by simpa using hg)
theorem bd_divInt {k : Nat} {n d : Int} (h0 : d ≠ 0) (hn : n.natAbs < 2 ^ k) (hd : d.natAbs < 2 ^ k) : Bd k (Rat.divInt n d) := by
  have g0 : 0 < Int.gcd d n := Int.gcd_pos_of_ne_zero_left _ h0
  constructor
  · rw [Rat.num_divInt]
    refine Nat.lt_of_le_of_lt (ediv_le _ _ g0 ?_) ?_
    · exact Int.dvd_mul_of_dvd_right (Int.gcd_dvd_right ..)
    · rw [Int.natAbs_mul, Int.natAbs_sign_of_ne_zero h0, Nat.one_mul]
      exact hn
  · rw [Rat.den_divInt, if_neg h0]
    exact Nat.lt_of_le_of_lt (Nat.div_le_self _ _) hd
/-! equality -/
section
variable {p q : Rat} {k l : Nat}
theorem fr_inj (h : p.num = q.num ∧ (p.den : Int) = q.den) : p = q := Rat.ext h.1 (by have := h.2; omega)
@[simp] theorem eq_fr : opEq (fr p) (fr q) = some (decide (p = q)) := by
  have e : ((p.num == q.num) && ((p.den : Int) == (q.den : Int))) = decide (p = q) := by
    by_cases h : p = q
    · subst h; simp
    · rw [decide_eq_false h]
      refine Bool.eq_false_iff.mpr fun z => h ?_
      simp only [Bool.and_eq_true, beq_iff_eq] at z
      exact fr_inj z
  simp [opEq, opEq0, fr, D.py, D.pys, SeqAt.shaped, PyData.canLay0, PyData.canLayAll0, PyData.depth, PyData.depthAll, PyData.eqv, PyData.eqvAll]
  first | exact e | (rw [← e]; simp)
@[simp] theorem ne_fr : opNe (fr p) (fr q) = some (!decide (p = q)) := by simp [opNe]
@[simp] theorem eq_i {a b : Int} : opEq (.int a) (.int b) = some (decide (a = b)) := by
  simp [opEq, opEq0, D.py, SeqAt.shaped, PyData.canLay0, PyData.depth, PyData.eqv]
  rfl
@[simp] theorem eq_bl {a b : Bool} : opEq (.bl a) (.bl b) = some (decide (a = b)) := by
  simp [opEq, opEq0, D.py, SeqAt.shaped, PyData.canLay0, PyData.depth, PyData.eqv]
  rfl
@[simp] theorem ne_i {a b : Int} : opNe (.int a) (.int b) = some (!decide (a = b)) := by simp [opNe]
@[simp] theorem ne_bl {a b : Bool} : opNe (.bl a) (.bl b) = some (!decide (a = b)) := by simp [opNe]
@[simp] theorem ne_nil : opNe (.lst []) (.lst []) = some false := by
  simp [opNe, opEq, opEq0, D.py, D.pys, SeqAt.shaped, PyData.canLay0, PyData.canLayAll0, PyData.depth, PyData.depthAll, PyData.eqv, PyData.eqvAll]
@[simp] theorem view_fr {st : State} : view st (.sh (fr q)) = some (fr q) := rfl
end
end Lb
set_option Elab.async false
set_option linter.all false
set_option maxRecDepth 100000
set_option maxHeartbeats 4000000
namespace D1
open PySem PySem.Spec L2 PM Lb
/-! ### the draws -/
def kCe : Key := .inr "cells"
def kUs : Key := .inr "used"
def kLe : Key := .inr "left"
def pen (cs : List Int) (u l : Int) : List (Key × D) := [(kCe, .lst (cs.map .int)), (kUs, .int u), (kLe, .int l)]
theorem ne1 : ¬ kCe = kUs := by decide
theorem ne2 : ¬ kCe = kLe := by decide
theorem ne3 : ¬ kUs = kLe := by decide
section
variable {cs : List Int} {u l : Int}
@[simp] theorem ak1 : asKey (.str (Str.ofString "cells")) = some kCe := rfl
@[simp] theorem ak2 : asKey (.str (Str.ofString "used")) = some kUs := rfl
@[simp] theorem ak3 : asKey (.str (Str.ofString "left")) = some kLe := rfl
@[simp] theorem dg1 : dget (pen cs u l) kCe = some (.lst (cs.map .int)) := by simp [dget, pen]
@[simp] theorem dg2 : dget (pen cs u l) kUs = some (.int u) := by simp [dget, pen, ne1]
@[simp] theorem dg3 : dget (pen cs u l) kLe = some (.int l) := by simp [dget, pen, ne2, ne3]
@[simp] theorem dp2 {x : Int} : dput (pen cs u l) kUs (.int x) = pen cs x l := by simp [dput, pen, ne1, ne3, Ne.symm ne3]
@[simp] theorem dp3 {x : Int} : dput (pen cs u l) kLe (.int x) = pen cs u x := by simp [dput, pen, ne2, ne3]
theorem up_dc {n : Nat} {env : List Slot} {store : List Cell} {kvs : List (Key × D)} {d : D} {k : Key} {kd : D} (h : store[n]? = some (.dc kvs)) (hk : asKey kd = some k) (hl : kvs.length < lim) : upC (putC kd d) (.sh (.obj n)) ⟨env, store⟩ = some (.non, ⟨env, store.set n (.dc (dput kvs k d))⟩) := by
  simp [upC, h, putC, hl, hk]
theorem pen_len : (pen cs u l).length < lim := by simp [pen, lim]
theorem ne_e (cs : List Int) : opNe (.lst (cs.map .int)) (.lst []) = some (!decide (cs = [])) := by
  rw [opNe_l0]
  cases cs <;> simp
end
theorem sml_b {x : Int} (h : -1000000000000000000000000000000 < x) (h2 : x < 1000000000000000000000000000000000000000) : sml x = true := by
  refine sml_of (k := 200) ?_ (by decide)
  have e : (2 : Nat) ^ 200 = 1606938044258990275541962092341162602522202993782792835301376 := by decide +kernel
  omega
def drawB : Nat → Int
  | 0 => 50000000
  | k + 1 => 50000000 * drawB k
theorem drawB_pos : ∀ k, 50000000 ≤ drawB k
  | 0 => by decide
  | k + 1 => by
    have := drawB_pos k
    show 50000000 ≤ 50000000 * drawB k
    omega
theorem o18 : opPow (.int 10) (.int 18) = some (.sh (.int 1000000000000000000)) := rfl
theorem draw_step (Frec : Fn) (B : Int) (hB : 0 ≤ B) (many : Int) (n : Nat) (h0 : 0 < many) (hlg : many.natAbs < 2 ^ 8000)
    (hrec : 60000000 < many → ∀ (store : List Cell) (cs : List Int) (u l : Int), store[n]? = some (.dc (pen cs u l)) → cs.length ≤ 63 → 0 ≤ u → u + B ≤ 1000000000 → 0 ≤ l → ∃ r u' l', Frec [.obj n, .int (many / 60000000 + 1)] store = .ret (.sh (.int r)) (store.set n (.dc (pen cs u' l'))) ∧ 0 ≤ r ∧ r < many / 60000000 + 1 ∧ u ≤ u' ∧ u' ≤ u + B ∧ 0 ≤ l')
    (store : List Cell) (cs : List Int) (u l : Int) (hs : store[n]? = some (.dc (pen cs u l))) (hc : cs.length ≤ 63) (hu : 0 ≤ u) (hu2 : u + B ≤ 999999999) (hl : 0 ≤ l) :
    ∃ r u' l', runF (m__law_draw Frec) 4 [.obj n, .int many] store = .ret (.sh (.int r)) (store.set n (.dc (pen cs u' l'))) ∧ 0 ≤ r ∧ r < many ∧ u ≤ u' ∧ u' ≤ u + B + 1 ∧ 0 ≤ l' := by
  have hlog : many.natAbs.log2 < 9000 := log2_le hlg (by decide)
  have hn : n < store.length := (List.getElem?_eq_some_iff.mp hs).1
  have hset : ∀ c, (store.set n c)[n]? = some c := fun c => List.getElem?_set_self hn
  have v1 : ∀ env, view ⟨env, store⟩ (.sh (.obj n)) = some (.dct (pen cs u l)) := fun env => view_dc hs
  have v2 : ∀ env kvs, view ⟨env, store.set n (.dc kvs)⟩ (.sh (.obj n)) = some (.dct kvs) := fun env kvs => view_dc (hset _)
  have u1 : ∀ env kd k d, asKey kd = some k → upC (putC kd d) (.sh (.obj n)) ⟨env, store⟩ = some (.non, ⟨env, store.set n (.dc (dput (pen cs u l) k d))⟩) := fun env kd k d h => up_dc hs h pen_len
  have u2 : ∀ env kd k d x y, asKey kd = some k → upC (putC kd d) (.sh (.obj n)) ⟨env, store.set n (.dc (pen cs x y))⟩ = some (.non, ⟨env, store.set n (.dc (dput (pen cs x y) k d))⟩) := fun env kd k d x y h => by
    rw [up_dc (hset _) h pen_len, List.set_set]
  by_cases hl0 : 0 < l
  · refine ⟨l % many, u, l / many, ?_, Int.emod_nonneg _ (by omega), Int.emod_lt_of_pos _ h0, by omega, by omega, Int.ediv_nonneg hl (by omega)⟩
    have o1 := opMod_i (i := l) h0
    have o2 := opFdv_i (i := l) h0 hlog
    have w := u1 [.sh (.obj n), .sh (.int many), .sh (.int (l % many)), .un, .un, .un] (.str (Str.ofString "left")) kLe (.int (l / many)) rfl
    simp [runF, m__law_draw, entry, mV, v1, v2, hl0, o1, o2, w]
  · have w1 := u1 [.sh (.obj n), .sh (.int many), .un, .sh (.int u), .un, .un] (.str (Str.ofString "used")) kUs (.int (u + 1)) rfl
    have s1 := sml_b (x := u) (by omega) (by omega)
    have s43 : sml 43 = true := by decide
    have s30 : sml 30011 = true := by decide
    have s17 : sml 178481 = true := by decide
    have s16 : sml 16769023 = true := by decide
    have s5 : sml 5 = true := by decide
    have s6 : sml 60000000 = true := by decide
    have s11 : sml 1103515 = true := by decide
    have s3 := sml_b (x := 30011 * u) (by omega) (by omega)
    have lc : opLen (.lst (cs.map D.int)) = some (.sh (.int ((cs.length : Nat) : Int))) := by simp [opLen]
    have ne0 := ne_e cs
    -- the cell
    obtain ⟨c, hcell⟩ : ∃ c : Int, ((cs = [] ∧ c = 43 * u + 7) ∨ (cs ≠ [] ∧ opMod (.int u) (.int ((cs.length : Nat) : Int)) = some (.sh (.int (u % cs.length))) ∧ opIx (.lst (cs.map D.int)) (.int (u % cs.length)) = some (.sh (.int c)))) := by
      by_cases he : cs = []
      · exact ⟨_, .inl ⟨he, rfl⟩⟩
      · have hp : 0 < cs.length := List.length_pos_iff.mpr he
        have hlt : u % (cs.length : Int) < cs.length := Int.emod_lt_of_pos _ (by omega)
        have hge : 0 ≤ u % (cs.length : Int) := Int.emod_nonneg _ (by omega)
        obtain ⟨i, hi⟩ := Int.eq_ofNat_of_zero_le hge
        have hi2 : i < cs.length := by omega
        refine ⟨cs[i], .inr ⟨he, opMod_i (by omega), ?_⟩⟩
        rw [opIx_l, hi, atI_nat (j := i) (v := D.int cs[i]) (by rw [List.getElem?_map, List.getElem?_eq_getElem hi2]; rfl)]
        rfl
    -- the blend
    have b1 : 0 ≤ c % 4294967231 ∧ c % 4294967231 < 4294967231 := ⟨Int.emod_nonneg _ (by decide), Int.emod_lt_of_pos _ (by decide)⟩
    have t1 := sml_b (x := c % 4294967231) (by omega) (by omega)
    have o1 := opMod_i (i := c) (j := 4294967231) (by decide)
    obtain ⟨x1, e1⟩ : ∃ x, x = c % 4294967231 * 1103515 + 30011 * u * u := ⟨_, rfl⟩
    have b2 : 0 ≤ (x1 + 178481 * u + 23) % 4294967197 ∧ (x1 + 178481 * u + 23) % 4294967197 < 4294967197 := ⟨Int.emod_nonneg _ (by decide), Int.emod_lt_of_pos _ (by decide)⟩
    have o2 := opMod_i (i := x1 + 178481 * u + 23) (j := 4294967197) (by decide)
    obtain ⟨x2, e2⟩ : ∃ x, x = (x1 + 178481 * u + 23) % 4294967197 := ⟨_, rfl⟩
    rw [← e2] at b2 o2
    have t2 := sml_b (x := x2) (by omega) (by omega)
    obtain ⟨x3, e3⟩ : ∃ x, x = (x2 * x2 + 16769023 * x2 + 5 * u + 7) % 4294967189 := ⟨_, rfl⟩
    have o3 := opMod_i (i := x2 * x2 + 16769023 * x2 + 5 * u + 7) (j := 4294967189) (by decide)
    have b3 : 0 ≤ (x2 * x2 + 16769023 * x2 + 5 * u + 7) % 4294967189 ∧ (x2 * x2 + 16769023 * x2 + 5 * u + 7) % 4294967189 < 4294967189 := ⟨Int.emod_nonneg _ (by decide), Int.emod_lt_of_pos _ (by decide)⟩
    rw [← e3] at b3 o3
    have t3 := sml_b (x := x3) (by omega) (by omega)
    have t4 := sml_b (x := x3 + 28629151) (by omega) (by omega)
    have o4 := opMod_i (i := x3 * (x3 + 28629151)) (j := 4294967291) (by decide)
    have b4 : 0 ≤ x3 * (x3 + 28629151) % 4294967291 := Int.emod_nonneg _ (by decide)
    obtain ⟨x4, e4⟩ : ∃ x, x = x3 * (x3 + 28629151) % 4294967291 := ⟨_, rfl⟩
    rw [← e4] at b4 o4
    have o5 := opFdv_i (i := x4) (j := 64) (by decide) (by decide)
    obtain ⟨x5, e5⟩ : ∃ x, x = x4 / 64 := ⟨_, rfl⟩
    rw [← e5] at o5
    have m1 : opMul (.int (c % 4294967231)) (.int 1103515) = some (.sh (.int (c % 4294967231 * 1103515))) := opMul_i t1 s11
    have m2 : opMul (.int 30011) (.int u) = some (.sh (.int (30011 * u))) := opMul_i s30 s1
    have m3 : opMul (.int (30011 * u)) (.int u) = some (.sh (.int (30011 * u * u))) := opMul_i s3 s1
    have m4 : opMul (.int 178481) (.int u) = some (.sh (.int (178481 * u))) := opMul_i s17 s1
    have m5 : opMul (.int x2) (.int x2) = some (.sh (.int (x2 * x2))) := opMul_i t2 t2
    have m6 : opMul (.int 16769023) (.int x2) = some (.sh (.int (16769023 * x2))) := opMul_i s16 t2
    have m7 : opMul (.int 5) (.int u) = some (.sh (.int (5 * u))) := opMul_i s5 s1
    have m8 : opMul (.int x3) (.int (x3 + 28629151)) = some (.sh (.int (x3 * (x3 + 28629151)))) := opMul_i t3 t4
    have m9 : opMul (.int 43) (.int u) = some (.sh (.int (43 * u))) := opMul_i s43 s1
    have a1 : opAdd (.int (c % 4294967231 * 1103515)) (.int (30011 * u * u)) = some (.sh (.int x1)) := by rw [e1]; rfl
    -- a great cell
    by_cases hg : u < cs.length ∧ (1000000000000000000 : Int) ≤ (c.natAbs : Int)
    · have he : cs ≠ [] := fun z => by rw [z] at hg; simp at hg; omega
      obtain ⟨z, _⟩ | ⟨_, q1, q2⟩ := hcell
      · exact absurd z he
      · obtain ⟨g1, g2⟩ := hg
        have f1 := opMod_i (i := (c.natAbs : Int) - 1000000000000000000) h0
        have f2 := opFdv_i (i := (c.natAbs : Int) - 1000000000000000000) h0 hlog
        have w2 := u2 [.sh (.obj n), .sh (.int many), .un, .sh (.int u), .sh (.int c), .un] (.str (Str.ofString "left")) kLe (.int (((c.natAbs : Int) - 1000000000000000000) / many)) (u + 1) l rfl
        refine ⟨((c.natAbs : Int) - 1000000000000000000) % many, u + 1, ((c.natAbs : Int) - 1000000000000000000) / many, ?_, Int.emod_nonneg _ (by omega), Int.emod_lt_of_pos _ h0, by omega, by omega, Int.ediv_nonneg (by omega) (by omega)⟩
        have ne1 : opNe (.lst (cs.map .int)) (.lst []) = some true := by rw [ne0, decide_eq_false he]; rfl
        have ab : opAbs (.int c) = some (.sh (.int (c.natAbs : Int))) := opAbs_i
        generalize (c.natAbs : Int) = ca at *
        simp [-opMul_i, runF, m__law_draw, entry, mV, v1, v2, hl0, w1, lc, ne1, q1, q2, m9, g1, g2, ab, o18, f1, f2, w2]
    · have ab : opAbs (.int c) = some (.sh (.int (c.natAbs : Int))) := opAbs_i
      have hg' : (cs.length : Int) > u → ¬ (1000000000000000000 : Int) ≤ (c.natAbs : Int) := fun z y => hg ⟨z, y⟩
      clear hg
      generalize (c.natAbs : Int) = ca at *
      -- a great number
      have fin : ∃ y u' l', (0 ≤ l' ∧ u ≤ u' ∧ u' ≤ u + B + 1) ∧
          ((¬ 60000000 < many ∧ y = x5 ∧ u' = u + 1 ∧ l' = l) ∨
           (60000000 < many ∧ ∃ r, y = x5 + 60000000 * r ∧ sml r = true ∧ Frec [.obj n, .int (many / 60000000 + 1)] (store.set n (.dc (pen cs (u + 1) l))) = .ret (.sh (.int r)) (store.set n (.dc (pen cs u' l'))))) := by
        by_cases hb : 60000000 < many
        · obtain ⟨r, u', l', h1, h2, h3, h4, h5, h6⟩ := hrec hb _ cs (u + 1) l (hset _) hc (by omega) (by omega) hl
          rw [List.set_set] at h1
          refine ⟨_, u', l', ⟨h6, by omega, by omega⟩, .inr ⟨hb, r, rfl, sml_of (k := 8000) ?_ (by decide), h1⟩⟩
          have : r.natAbs ≤ many.natAbs := by omega
          exact Nat.lt_of_le_of_lt this hlg
        · exact ⟨_, u + 1, l, ⟨hl, by omega, by omega⟩, .inl ⟨hb, rfl, rfl, rfl⟩⟩
      obtain ⟨y, u', l', ⟨k1, k2, k3⟩, fin⟩ := fin
      refine ⟨y % many, u', l', ?_, Int.emod_nonneg _ (by omega), Int.emod_lt_of_pos _ h0, k2, k3, k1⟩
      have oy := opMod_i (i := y) h0
      have f6 := opFdv_i (i := many) (j := 60000000) (by decide) (by decide)
      rcases hcell with ⟨he, ec⟩ | ⟨he, q1, q2⟩
      · have ne1 : opNe (.lst (cs.map .int)) (.lst []) = some false := by rw [ne0, decide_eq_true he]; rfl
        have h1 : ¬ u < (cs.length : Int) := by rw [he]; simp; omega
        have a9 : opAdd (.int (43 * u)) (.int 7) = some (.sh (.int c)) := by rw [ec]; rfl
        clear ec he e1 e2 e3 e4 e5 ne0
        rcases fin with ⟨hb, rfl, rfl, rfl⟩ | ⟨hb, r, rfl, sr, rec⟩
        · simp [-opMul_i, -opMod_i, -opFdv_i, runF, m__law_draw, entry, mV, v1, v2, hl0, w1, lc, ne1, m9, a9, h1, o1, m1, m2, m3, a1, m4, o2, m5, m6, m7, o3, m8, o4, o5, hb, oy]
        · have m10 : opMul (.int 60000000) (.int r) = some (.sh (.int (60000000 * r))) := opMul_i s6 sr
          simp [-opMul_i, -opMod_i, -opFdv_i, runF, m__law_draw, entry, mV, v1, v2, hl0, w1, lc, ne1, m9, a9, h1, o1, m1, m2, m3, a1, m4, o2, m5, m6, m7, o3, m8, o4, o5, hb, oy, f6, rec, m10]
      · have ne1 : opNe (.lst (cs.map .int)) (.lst []) = some true := by rw [ne0, decide_eq_false he]; rfl
        clear he e1 e2 e3 e4 e5 ne0
        by_cases h1 : u < (cs.length : Int)
        · have h2 := hg' h1
          rcases fin with ⟨hb, rfl, rfl, rfl⟩ | ⟨hb, r, rfl, sr, rec⟩
          · simp [-opMul_i, -opMod_i, -opFdv_i, runF, m__law_draw, entry, mV, v1, v2, hl0, w1, lc, ne1, q1, q2, m9, h1, h2, ab, o18, o1, m1, m2, m3, a1, m4, o2, m5, m6, m7, o3, m8, o4, o5, hb, oy]
          · have m10 : opMul (.int 60000000) (.int r) = some (.sh (.int (60000000 * r))) := opMul_i s6 sr
            simp [-opMul_i, -opMod_i, -opFdv_i, runF, m__law_draw, entry, mV, v1, v2, hl0, w1, lc, ne1, q1, q2, m9, h1, h2, ab, o18, o1, m1, m2, m3, a1, m4, o2, m5, m6, m7, o3, m8, o4, o5, hb, oy, f6, rec, m10]
        · rcases fin with ⟨hb, rfl, rfl, rfl⟩ | ⟨hb, r, rfl, sr, rec⟩
          · simp [-opMul_i, -opMod_i, -opFdv_i, runF, m__law_draw, entry, mV, v1, v2, hl0, w1, lc, ne1, q1, q2, m9, h1, ab, o18, o1, m1, m2, m3, a1, m4, o2, m5, m6, m7, o3, m8, o4, o5, hb, oy]
          · have m10 : opMul (.int 60000000) (.int r) = some (.sh (.int (60000000 * r))) := opMul_i s6 sr
            simp [-opMul_i, -opMod_i, -opFdv_i, runF, m__law_draw, entry, mV, v1, v2, hl0, w1, lc, ne1, q1, q2, m9, h1, ab, o18, o1, m1, m2, m3, a1, m4, o2, m5, m6, m7, o3, m8, o4, o5, hb, oy, f6, rec, m10]
theorem drawB_0 : drawB 0 = 50000000 := rfl
theorem drawB_s (k : Nat) : drawB (k + 1) = 50000000 * drawB k := rfl
def DrawOk (k : Nat) (F : Fn) : Prop := ∀ (many : Int) (n : Nat), 0 < many → many ≤ drawB k → many.natAbs < 2 ^ 8000 → ∀ (store : List Cell) (cs : List Int) (u l : Int), store[n]? = some (.dc (pen cs u l)) → cs.length ≤ 63 → 0 ≤ u → u + (k : Int) ≤ 999999999 → 0 ≤ l →
    ∃ r u' l', F [.obj n, .int many] store = .ret (.sh (.int r)) (store.set n (.dc (pen cs u' l'))) ∧ 0 ≤ r ∧ r < many ∧ u ≤ u' ∧ u' ≤ u + (k : Int) + 1 ∧ 0 ≤ l'
theorem draw_0 : DrawOk 0 (F__law_draw 1) := by
  intro many n h0 hb hlg store cs u l hs hc hu hu2 hl
  rw [drawB_0] at hb
  obtain ⟨r, u', l', h1, h2, h3, h4, h5, h6⟩ := draw_step (F__law_draw 0) 0 (by decide) many n h0 hlg (fun z => by omega) store cs u l hs hc hu (by omega) hl
  exact ⟨r, u', l', h1, h2, h3, h4, by omega, h6⟩
theorem draw_s (k : Nat) (ih : DrawOk k (F__law_draw (k + 1))) : DrawOk (k + 1) (F__law_draw (k + 2)) := by
  intro many n h0 hb hlg store cs u l hs hc hu hu2 hl
  rw [drawB_s] at hb
  have dp := drawB_pos k
  have hrec : 60000000 < many → ∀ (store : List Cell) (cs : List Int) (u l : Int), store[n]? = some (.dc (pen cs u l)) → cs.length ≤ 63 → 0 ≤ u → u + ((k : Int) + 1) ≤ 1000000000 → 0 ≤ l → ∃ r u' l', F__law_draw (k + 1) [.obj n, .int (many / 60000000 + 1)] store = .ret (.sh (.int r)) (store.set n (.dc (pen cs u' l'))) ∧ 0 ≤ r ∧ r < many / 60000000 + 1 ∧ u ≤ u' ∧ u' ≤ u + ((k : Int) + 1) ∧ 0 ≤ l' := by
    intro z store cs u l hs hc hu hu2 hl
    obtain ⟨r, u', l', h1, h2, h3, h4, h5, h6⟩ := ih (many / 60000000 + 1) n (by omega) (by omega) (Nat.lt_of_le_of_lt (by omega : (many / 60000000 + 1).natAbs ≤ many.natAbs) hlg) store cs u l hs hc hu (by omega) hl
    exact ⟨r, u', l', h1, h2, h3, h4, by omega, h6⟩
  obtain ⟨r, u', l', h1, h2, h3, h4, h5, h6⟩ := draw_step (F__law_draw (k + 1)) ((k : Int) + 1) (by omega) many n h0 hlg hrec store cs u l hs hc hu (by omega) hl
  exact ⟨r, u', l', h1, h2, h3, h4, by omega, h6⟩
theorem s_draw : ∀ k : Nat, DrawOk k (F__law_draw (k + 1))
  | 0 => draw_0
  | k + 1 => draw_s k (s_draw k)
end D1
set_option Elab.async false
set_option linter.all false
set_option maxRecDepth 100000
set_option maxHeartbeats 4000000
set_option exponentiation.threshold 20000
namespace D1
open PySem PySem.Spec L2 PM Lb
/-- a pen stands at n: its cells, at most N used -/
def Pn (n : Nat) (cs : List Int) (N : Int) (store : List Cell) : Prop := cs.length ≤ 63 ∧ ∃ u l, store[n]? = some (.dc (pen cs u l)) ∧ 0 ≤ u ∧ u ≤ N ∧ 0 ≤ l
section
variable {n : Nat} {cs : List Int} {N : Int} {store : List Cell}
theorem drawB7 : drawB 7 = 39062500000000000000000000000000000000000000000000000000000000 := by decide +kernel
theorem p_draw (many : Int) (h0 : 0 < many) (hb : many ≤ 10000000000000000000000000000000000000000) (h : Pn n cs N store) (hN : N ≤ 900000000) :
    ∃ r store', F__law_draw 8 [.obj n, .int many] store = .ret (.sh (.int r)) store' ∧ Pn n cs (N + 8) store' ∧ 0 ≤ r ∧ r < many := by
  obtain ⟨hc, u, l, hs, hu, hu2, hl⟩ := h
  have hlg : many.natAbs < 2 ^ 8000 := by
    have e : many.natAbs < 2 ^ 200 := by
      have e : (2 : Nat) ^ 200 = 1606938044258990275541962092341162602522202993782792835301376 := by decide +kernel
      omega
    exact Nat.lt_of_lt_of_le e (Nat.pow_le_pow_right (by decide) (by decide))
  obtain ⟨r, u', l', h1, h2, h3, h4, h5, h6⟩ := s_draw 7 many n h0 (by rw [drawB7]; omega) hlg store cs u l hs hc hu (by omega) hl
  have hn : n < store.length := (List.getElem?_eq_some_iff.mp hs).1
  exact ⟨r, _, h1, ⟨hc, u', l', List.getElem?_set_self hn, by omega, by omega, h6⟩, h2, h3⟩
theorem p_pick (ds : List D) (h0 : ds ≠ []) (hb : ds.length ≤ 1000) (h : Pn n cs N store) (hN : N ≤ 900000000) :
    ∃ d store', F__law_pick [.obj n, .lst ds] store = .ret (.sh d) store' ∧ Pn n cs (N + 8) store' ∧ d ∈ ds := by
  have hp : 0 < ds.length := List.length_pos_iff.mpr h0
  obtain ⟨r, store', h1, h2, h3, h4⟩ := p_draw (many := (ds.length : Int)) (by omega) (by omega) h hN
  obtain ⟨i, hi⟩ := Int.eq_ofNat_of_zero_le h3
  have hi2 : i < ds.length := by omega
  have ix : opIx (.lst ds) (.int r) = some (.sh ds[i]) := by
    rw [opIx_l, hi, atI_nat (j := i) (v := ds[i]) (List.getElem?_eq_getElem hi2)]
    rfl
  have lc : opLen (.lst ds) = some (.sh (.int ((ds.length : Nat) : Int))) := rfl
  refine ⟨ds[i], store', ?_, h2, List.getElem_mem hi2⟩
  simp [F__law_pick, runF, m__law_pick, entry, mV, lc, h1, ix]
end
theorem low_loop (x y : D) (s : List Cell) : ∀ (n a b : Nat), b < n → mWhileN n (mCmp opGt (mV 3) (mL (.int 0))) (mPar 2 3 (mV 3) (mOp opMod (mV 2) (mV 3))) ⟨[.sh x, .sh y, .sh (.int a), .sh (.int b)], s⟩ = .nx ⟨[.sh x, .sh y, .sh (.int (Nat.gcd a b)), .sh (.int 0)], s⟩
  | 0, _, _, h => absurd h (Nat.not_lt_zero _)
  | n + 1, a, 0, _ => by
    rw [r_whiles]
    simp [mV]
  | n + 1, a, b + 1, h => by
    have h2 : a % (b + 1) < b + 1 := Nat.mod_lt _ (Nat.succ_pos _)
    have e : ((a : Int) % ((b : Int) + 1)) = ((a % (b + 1) : Nat) : Int) := (Int.natCast_emod a (b + 1)).symm
    have hp : (0 : Int) < (b : Int) + 1 := by omega
    have ih := low_loop x y s n (b + 1) (a % (b + 1)) (by omega)
    rw [Nat.gcd_comm (b + 1), ← Nat.gcd_rec, Nat.gcd_comm] at ih
    rw [r_whiles]
    simp [mV, hp]
    rw [e]
    exact ih
theorem s_low (n d : Int) (s : List Cell) (h0 : 0 < d) (hb : d.natAbs < 2 ^ 8000) : F__law_low [.int n, .int d] s = .ret (.sh (fr (Rat.divInt n d))) s := by
  have h0' : d ≠ 0 := by omega
  have g0 : 0 < Int.gcd n d := Int.gcd_pos_of_ne_zero_right _ h0'
  have gl : Int.gcd n d ≤ d.natAbs := Nat.le_of_dvd (Int.natAbs_pos.mpr h0') (Int.gcd_dvd_natAbs_right ..)
  have lg : (Int.gcd n d).log2 < 9000 := log2_le (Nat.lt_of_le_of_lt gl hb) (by decide)
  have e1 : d.sign = 1 := Int.sign_eq_one_of_pos h0
  have e2 : (d.natAbs : Int) = d := by omega
  have eg : Nat.gcd n.natAbs d.natAbs = Int.gcd n d := rfl
  have lp := low_loop (.int n) (.int d) s (d.natAbs + 1) n.natAbs d.natAbs (Nat.lt_succ_self _)
  rw [eg] at lp
  have o1 := opFdv_i (i := n) (j := ((Int.gcd n d : Nat) : Int)) (by omega) (by simpa using lg)
  have o2 := opFdv_i (i := d) (j := ((Int.gcd n d : Nat) : Int)) (by omega) (by simpa using lg)
  rw [fr_divInt n d h0', e1, e2, Int.one_mul]
  rw [e2] at lp
  generalize ((Int.gcd n d : Nat) : Int) = g at *
  simp [F__law_low, runF, m__law_low, entry, mV, natAt, lp, e2, h0, o1, o2]
theorem s_lowN (n d : Int) (s : List Cell) (h0 : d ≠ 0) (hb : d.natAbs < 2 ^ 8000) : F__law_low [.int n, .int d] s = .ret (.sh (fr (Rat.divInt n d))) s := by
  by_cases hp : 0 < d
  · exact s_low n d s hp hb
  have hd : d < 0 := by omega
  have g0 : 0 < Int.gcd n d := Int.gcd_pos_of_ne_zero_right _ h0
  have gl : Int.gcd n d ≤ d.natAbs := Nat.le_of_dvd (Int.natAbs_pos.mpr h0) (Int.gcd_dvd_natAbs_right ..)
  have lg : (Int.gcd n d).log2 < 9000 := log2_le (Nat.lt_of_le_of_lt gl hb) (by decide)
  have e1 : d.sign = -1 := Int.sign_eq_neg_one_of_neg hd
  have eg : Nat.gcd n.natAbs d.natAbs = Int.gcd n d := rfl
  have lp := low_loop (.int n) (.int d) s (d.natAbs + 1) n.natAbs d.natAbs (Nat.lt_succ_self _)
  rw [eg] at lp
  obtain ⟨f1, f2⟩ := fdiv_gcd (n := n) hd
  have o1 := opFdv_n (i := n) (j := -((Int.gcd n d : Nat) : Int)) (by omega) (by simpa using lg)
  have o2 := opFdv_n (i := d) (j := -((Int.gcd n d : Nat) : Int)) (by omega) (by simpa using lg)
  rw [fr_divInt n d h0, e1, ← f1, ← f2]
  generalize ((Int.gcd n d : Nat) : Int) = g at *
  simp [F__law_low, runF, m__law_low, entry, mV, natAt, lp, hp, o1, o2]
section
variable {n : Nat} {cs : List Int} {N : Int} {store : List Cell}
theorem s_pen (ns : List Int) (s : List Cell) : F__law_pen [.lsF (ns.map .int)] s = .ret (.sh (.obj s.length)) (s ++ [.dc (pen (ns.take 63) 0 0)]) := by
  have o1 : opSl (.lsF (ns.map .int)) none (some 63) = some (.ow (.ls ((ns.take 63).map .int))) := by
    show some (RV.ow (.ls (cut (ns.map D.int) none (some ((63 : Nat) : Int))))) = _
    rw [cut_to, List.map_take]
  obtain ⟨cs, hcs⟩ : ∃ cs, cs = ns.take 63 := ⟨_, rfl⟩
  rw [← hcs] at o1 ⊢
  have o2 : opList (.lst ((cs).map .int)) = some (.ow (.ls ((cs).map .int))) := by simp [opList, asL]
  have k : asKs [(.str (Str.ofString "cells"), .lst ((cs).map .int)), (.str (Str.ofString "used"), .int 0), (.str (Str.ofString "left"), .int 0)] = some (pen (cs) 0 0) := by simp [asKs, pen]
  have m : mergeD [] (pen (cs) 0 0) = pen (cs) 0 0 := by simp [mergeD, pen, dput, ne1, ne2, ne3]
  have di := fun st => kDi_e (st := st) k (by simp [pen])
  rw [m] at di
  simp [F__law_pen, runF, m__law_pen, entry, mV, o1, o2, di]
end
end D1
set_option Elab.async false
set_option linter.all false
set_option maxRecDepth 100000
set_option maxHeartbeats 4000000
namespace D2
open PySem PySem.Spec L2 PM
def m__law_draw : MS :=
  mSeq (mIfS (mCmp opGt (mOp opIx (mV 0) (mL (.str "left"))) (mL (.int 0))) (mSeq (mSet 2 (mOp opMod (mOp opIx (mV 0) (mL (.str "left"))) (mV 1)))
  (mSeq (mPut (mV 0) (mL (.str "left")) (mOp opFdv (mOp opIx (mV 0) (mL (.str "left"))) (mV 1)))
  (mRet (mV 2)))) (mNx))
  (mSeq (mSet 3 (mOp opIx (mV 0) (mL (.str "used"))))
  (mSeq (mPut (mV 0) (mL (.str "used")) (mOp opAdd (mV 3) (mL (.int 1))))
  (mSeq (mSet 4 (mOp opAdd (mOp opMul (mL (.int 43)) (mV 3)) (mL (.int 17))))
  (mSeq (mIfS (mCmp opNe (mOp opIx (mV 0) (mL (.str "cells"))) (mLst (mNil))) (mSet 4 (mOp opIx (mOp opIx (mV 0) (mL (.str "cells"))) (mOp opMod (mV 3) (mUn opLen (mOp opIx (mV 0) (mL (.str "cells"))))))) (mNx))
  (mSeq (mIfS (mAnd (mCmp opLt (mV 3) (mUn opLen (mOp opIx (mV 0) (mL (.str "cells"))))) (mCmp opGe (mUn opAbs (mV 4)) (mOp opPow (mL (.int 10)) (mL (.int 18))))) (mSeq (mPut (mV 0) (mL (.str "left")) (mOp opFdv (mOp opSub (mUn opAbs (mV 4)) (mOp opPow (mL (.int 10)) (mL (.int 18)))) (mV 1)))
  (mRet (mOp opMod (mOp opSub (mUn opAbs (mV 4)) (mOp opPow (mL (.int 10)) (mL (.int 18)))) (mV 1)))) (mNx))
  (mSeq (mSet 5 (mOp opAdd (mOp opMul (mOp opMod (mV 4) (mL (.int 4294967279))) (mL (.int 22695477))) (mOp opMul (mOp opMul (mL (.int 30011)) (mV 3)) (mV 3))))
  (mSeq (mSet 5 (mOp opMod (mOp opAdd (mOp opAdd (mV 5) (mOp opMul (mL (.int 104729)) (mV 3))) (mL (.int 23))) (mL (.int 4294967231))))
  (mSeq (mSet 5 (mOp opMod (mOp opAdd (mOp opAdd (mOp opAdd (mOp opMul (mV 5) (mV 5)) (mOp opMul (mL (.int 16777213)) (mV 5))) (mOp opMul (mL (.int 5)) (mV 3))) (mL (.int 1))) (mL (.int 4294967197))))
  (mRet (mOp opMod (mOp opFdv (mOp opMod (mOp opMul (mV 5) (mOp opAdd (mV 5) (mL (.int 33554393)))) (mL (.int 4294967291))) (mL (.int 64))) (mV 1)))))))))))
def F__law_draw : Fn := runF m__law_draw 4
def m__law_pick : MS :=
  mRet (mOp opIx (mV 1) (mCall 2 F__law_draw (mCons (mV 0) (mCons (mUn opLen (mV 1)) (mNil)))))
def F__law_pick : Fn := runF m__law_pick 0
def m__law_shuffled : MS :=
  mSeq (mPar 2 3 (mUn opList (mV 1)) (mLst (mNil)))
  (mSeq (mWhile (fun st => 1000000 + st.store.length) (mCmp opNe (mV 2) (mLst (mNil))) (mDrop (mMut fApp (mV 3) (mCons (mMut fPop (mV 2) (mCons (mCall 2 F__law_draw (mCons (mV 0) (mCons (mUn opLen (mV 2)) (mNil)))) (mNil))) (mNil)))))
  (mRet (mV 3)))
def F__law_shuffled : Fn := runF m__law_shuffled 2
def m__law_wide : MS :=
  mSeq (mAsg (gT 2 (gsCons (gN 2) (gsCons (gN 3) (gsNil)))) (mTup (mCons (mL (.int 0)) (mCons (mL (.int 1)) (mNil)))))
  (mSeq (mWhile (fun st => 100 + st.store.length) (mCmp opLt (mV 3) (mV 1)) (mSeq (mSet 2 (mOp opAdd (mOp opMul (mV 2) (mOp opPow (mL (.int 10)) (mL (.int 6)))) (mCall 2 F__law_draw (mCons (mV 0) (mCons (mOp opPow (mL (.int 10)) (mL (.int 6))) (mNil))))))
  (mSet 3 (mOp opMul (mV 3) (mOp opPow (mL (.int 10)) (mL (.int 6)))))))
  (mRet (mOp opMod (mV 2) (mV 1))))
def F__law_wide : Fn := runF m__law_wide 2
def m__law_gain : MS :=
  mSeq (mIfS (mCmp opEq (mV 1) (mL (.int 3))) (mRet (mOp opMul (mOp opIx (mLst (mCons (mL (.int 1)) (mCons (mUn opNeg (mL (.int 1))) (mNil)))) (mCall 2 F__law_draw (mCons (mV 0) (mCons (mL (.int 2)) (mNil))))) (mCall 2 F__law_wide (mCons (mV 0) (mCons (mOp opAdd (mOp opPow (mL (.int 10)) (mL (.int 30))) (mL (.int 1))) (mNil)))))) (mNx))
  (mRet (mOp opIx (mLst (mCons (mOp opSub (mCall 2 F__law_draw (mCons (mV 0) (mCons (mL (.int 7)) (mNil)))) (mL (.int 3))) (mCons (mCall 2 F__law_draw (mCons (mV 0) (mCons (mL (.int 2)) (mNil)))) (mCons (mCall 2 F__law_pick (mCons (mV 0) (mCons (mLst (mCons (mL (.int 0)) (mCons (mL (.int 0)) (mCons (mL (.int 6)) (mCons (mUn opNeg (mL (.int 6))) (mNil)))))) (mNil)))) (mNil))))) (mV 1)))
def F__law_gain : Fn := runF m__law_gain 0
end D2
set_option Elab.async false
set_option linter.all false
set_option maxRecDepth 100000
set_option maxHeartbeats 4000000
set_option exponentiation.threshold 20000
/-! the beginning of the draws, alike in all families but the first -/
namespace D1
open PySem PySem.Spec L2 PM Lb
def drawM (a b : Int) (tail : MS) : MS :=
  mSeq (mIfS (mCmp opGt (mOp opIx (mV 0) (mL (.str "left"))) (mL (.int 0))) (mSeq (mSet 2 (mOp opMod (mOp opIx (mV 0) (mL (.str "left"))) (mV 1)))
  (mSeq (mPut (mV 0) (mL (.str "left")) (mOp opFdv (mOp opIx (mV 0) (mL (.str "left"))) (mV 1)))
  (mRet (mV 2)))) (mNx))
  (mSeq (mSet 3 (mOp opIx (mV 0) (mL (.str "used"))))
  (mSeq (mPut (mV 0) (mL (.str "used")) (mOp opAdd (mV 3) (mL (.int 1))))
  (mSeq (mSet 4 (mOp opAdd (mOp opMul (mL (.int a)) (mV 3)) (mL (.int b))))
  (mSeq (mIfS (mCmp opNe (mOp opIx (mV 0) (mL (.str "cells"))) (mLst (mNil))) (mSet 4 (mOp opIx (mOp opIx (mV 0) (mL (.str "cells"))) (mOp opMod (mV 3) (mUn opLen (mOp opIx (mV 0) (mL (.str "cells"))))))) (mNx))
  (mSeq (mIfS (mAnd (mCmp opLt (mV 3) (mUn opLen (mOp opIx (mV 0) (mL (.str "cells"))))) (mCmp opGe (mUn opAbs (mV 4)) (mOp opPow (mL (.int 10)) (mL (.int 18))))) (mSeq (mPut (mV 0) (mL (.str "left")) (mOp opFdv (mOp opSub (mUn opAbs (mV 4)) (mOp opPow (mL (.int 10)) (mL (.int 18)))) (mV 1)))
  (mRet (mOp opMod (mOp opSub (mUn opAbs (mV 4)) (mOp opPow (mL (.int 10)) (mL (.int 18)))) (mV 1)))) (mNx))
  tail)))))
theorem draw_pre (a b : Int) (ha : sml a = true) (tail : MS) (R : List PM.Slot) (many : Int) (n : Nat) (h0 : 0 < many) (hlg : many.natAbs < 2 ^ 8000)
    (store : List Cell) (cs : List Int) (u l : Int) (hs : store[n]? = some (.dc (pen cs u l))) (hc : cs.length ≤ 63) (hu : 0 ≤ u) (hu2 : u ≤ 1000000000) (hl : 0 ≤ l) :
    (∃ r u' l' env, drawM a b tail ⟨.sh (.obj n) :: .sh (.int many) :: .un :: .un :: .un :: R, store⟩ = .rt (.sh (.int r)) ⟨env, store.set n (.dc (pen cs u' l'))⟩ ∧ 0 ≤ r ∧ r < many ∧ u ≤ u' ∧ u' ≤ u + 1 ∧ 0 ≤ l') ∨
    (∃ c : Int, drawM a b tail ⟨.sh (.obj n) :: .sh (.int many) :: .un :: .un :: .un :: R, store⟩ = tail ⟨.sh (.obj n) :: .sh (.int many) :: .un :: .sh (.int u) :: .sh (.int c) :: R, store.set n (.dc (pen cs (u + 1) l))⟩) := by
  have hlog : many.natAbs.log2 < 9000 := log2_le hlg (by decide)
  have hn : n < store.length := (List.getElem?_eq_some_iff.mp hs).1
  have hset : ∀ c, (store.set n c)[n]? = some c := fun c => List.getElem?_set_self hn
  have v1 : ∀ env, view ⟨env, store⟩ (.sh (.obj n)) = some (.dct (pen cs u l)) := fun env => view_dc hs
  have v2 : ∀ env kvs, view ⟨env, store.set n (.dc kvs)⟩ (.sh (.obj n)) = some (.dct kvs) := fun env kvs => view_dc (hset _)
  have u1 : ∀ env kd k d, asKey kd = some k → upC (putC kd d) (.sh (.obj n)) ⟨env, store⟩ = some (.non, ⟨env, store.set n (.dc (dput (pen cs u l) k d))⟩) := fun env kd k d h => up_dc hs h pen_len
  have u2 : ∀ env kd k d x y, asKey kd = some k → upC (putC kd d) (.sh (.obj n)) ⟨env, store.set n (.dc (pen cs x y))⟩ = some (.non, ⟨env, store.set n (.dc (dput (pen cs x y) k d))⟩) := fun env kd k d x y h => by
    rw [up_dc (hset _) h pen_len, List.set_set]
  by_cases hl0 : 0 < l
  · have o1 := opMod_i (i := l) h0
    have o2 := opFdv_i (i := l) h0 hlog
    have w := u1 (.sh (.obj n) :: .sh (.int many) :: .sh (.int (l % many)) :: .un :: .un :: R) (.str (Str.ofString "left")) kLe (.int (l / many)) rfl
    refine .inl ⟨l % many, u, l / many, .sh (.obj n) :: .sh (.int many) :: .sh (.int (l % many)) :: .un :: .un :: R, ?_, Int.emod_nonneg _ (by omega), Int.emod_lt_of_pos _ h0, by omega, by omega, Int.ediv_nonneg hl (by omega)⟩
    simp [drawM, mV, v1, v2, hl0, o1, o2, w]
  · have w1 := u1 (.sh (.obj n) :: .sh (.int many) :: .un :: .sh (.int u) :: .un :: R) (.str (Str.ofString "used")) kUs (.int (u + 1)) rfl
    have s1 := sml_b (x := u) (by omega) (by omega)
    have lc : opLen (.lst (cs.map D.int)) = some (.sh (.int ((cs.length : Nat) : Int))) := by simp [opLen]
    have ne0 := ne_e cs
    have m9 : opMul (.int a) (.int u) = some (.sh (.int (a * u))) := opMul_i ha s1
    obtain ⟨c, hcell⟩ : ∃ c : Int, ((cs = [] ∧ c = a * u + b) ∨ (cs ≠ [] ∧ opMod (.int u) (.int ((cs.length : Nat) : Int)) = some (.sh (.int (u % cs.length))) ∧ opIx (.lst (cs.map D.int)) (.int (u % cs.length)) = some (.sh (.int c)))) := by
      by_cases he : cs = []
      · exact ⟨_, .inl ⟨he, rfl⟩⟩
      · have hp : 0 < cs.length := List.length_pos_iff.mpr he
        have hlt : u % (cs.length : Int) < cs.length := Int.emod_lt_of_pos _ (by omega)
        have hge : 0 ≤ u % (cs.length : Int) := Int.emod_nonneg _ (by omega)
        obtain ⟨i, hi⟩ := Int.eq_ofNat_of_zero_le hge
        have hi2 : i < cs.length := by omega
        refine ⟨cs[i], .inr ⟨he, opMod_i (by omega), ?_⟩⟩
        rw [opIx_l, hi, atI_nat (j := i) (v := D.int cs[i]) (by rw [List.getElem?_map, List.getElem?_eq_getElem hi2]; rfl)]
        rfl
    have ab : opAbs (.int c) = some (.sh (.int (c.natAbs : Int))) := opAbs_i
    by_cases hg : u < cs.length ∧ (1000000000000000000 : Int) ≤ (c.natAbs : Int)
    · have he : cs ≠ [] := fun z => by rw [z] at hg; simp at hg; omega
      obtain ⟨z, _⟩ | ⟨_, q1, q2⟩ := hcell
      · exact absurd z he
      · obtain ⟨g1, g2⟩ := hg
        have f1 := opMod_i (i := (c.natAbs : Int) - 1000000000000000000) h0
        have f2 := opFdv_i (i := (c.natAbs : Int) - 1000000000000000000) h0 hlog
        have w2 := u2 (.sh (.obj n) :: .sh (.int many) :: .un :: .sh (.int u) :: .sh (.int c) :: R) (.str (Str.ofString "left")) kLe (.int (((c.natAbs : Int) - 1000000000000000000) / many)) (u + 1) l rfl
        have ne1 : opNe (.lst (cs.map .int)) (.lst []) = some true := by rw [ne0, decide_eq_false he]; rfl
        refine .inl ⟨((c.natAbs : Int) - 1000000000000000000) % many, u + 1, ((c.natAbs : Int) - 1000000000000000000) / many, .sh (.obj n) :: .sh (.int many) :: .un :: .sh (.int u) :: .sh (.int c) :: R, ?_, Int.emod_nonneg _ (by omega), Int.emod_lt_of_pos _ h0, by omega, by omega, Int.ediv_nonneg (by omega) (by omega)⟩
        generalize (c.natAbs : Int) = ca at *
        simp [-opMul_i, drawM, mV, v1, v2, hl0, w1, lc, ne1, q1, q2, m9, g1, g2, ab, o18, f1, f2, w2]
    · refine .inr ⟨c, ?_⟩
      have hg' : (cs.length : Int) > u → ¬ (1000000000000000000 : Int) ≤ (c.natAbs : Int) := fun z y => hg ⟨z, y⟩
      clear hg
      generalize (c.natAbs : Int) = ca at *
      rcases hcell with ⟨he, ec⟩ | ⟨he, q1, q2⟩
      · have ne1 : opNe (.lst (cs.map .int)) (.lst []) = some false := by rw [ne0, decide_eq_true he]; rfl
        have h1 : ¬ u < (cs.length : Int) := by rw [he]; simp; omega
        have a9 : opAdd (.int (a * u)) (.int b) = some (.sh (.int c)) := by rw [ec]; rfl
        clear ec he ne0
        simp [-opMul_i, -opMod_i, -opFdv_i, drawM, mV, v1, v2, hl0, w1, lc, ne1, m9, a9, h1]
      · have ne1 : opNe (.lst (cs.map .int)) (.lst []) = some true := by rw [ne0, decide_eq_false he]; rfl
        clear he ne0
        by_cases h1 : u < (cs.length : Int)
        · have h2 := hg' h1
          simp [-opMul_i, -opMod_i, -opFdv_i, drawM, mV, v1, v2, hl0, w1, lc, ne1, q1, q2, m9, h1, h2, ab, o18]
        · simp [-opMul_i, -opMod_i, -opFdv_i, drawM, mV, v1, v2, hl0, w1, lc, ne1, q1, q2, m9, h1, ab, o18]
/-- all cells but the one at n are as they were -/
def Fr (n : Nat) (s s' : List Cell) : Prop := s'.length = s.length ∧ ∀ i, i ≠ n → s'[i]? = s[i]?
theorem Fr.refl {n : Nat} {s : List Cell} : Fr n s s := ⟨rfl, fun _ _ => rfl⟩
theorem Fr.trans {n : Nat} {a b c : List Cell} (h : Fr n a b) (k : Fr n b c) : Fr n a c := ⟨k.1.trans h.1, fun i hi => (k.2 i hi).trans (h.2 i hi)⟩
theorem fr_set {n : Nat} {s : List Cell} {c : Cell} : Fr n s (s.set n c) := ⟨by simp, fun i hi => by rw [List.getElem?_set_ne (Ne.symm hi)]⟩
theorem Pn.app {n : Nat} {cs : List Int} {N : Int} {s t : List Cell} (h : Pn n cs N s) : Pn n cs N (s ++ t) := by
  obtain ⟨h1, u, l, h2, h3⟩ := h
  exact ⟨h1, u, l, by rw [List.getElem?_append_left (List.getElem?_eq_some_iff.mp h2).1]; exact h2, h3⟩
theorem Pn.le {n : Nat} {cs : List Int} {N M : Int} {s : List Cell} (h : Pn n cs N s) (hm : N ≤ M) : Pn n cs M s := by
  obtain ⟨h1, u, l, h2, h3, h4, h5⟩ := h
  exact ⟨h1, u, l, h2, h3, by omega, h5⟩
theorem Pn.set {n m : Nat} {cs : List Int} {N : Int} {s : List Cell} {c : Cell} (h : Pn n cs N s) (hm : m ≠ n) : Pn n cs N (s.set m c) := by
  obtain ⟨h1, u, l, h2, h3⟩ := h
  exact ⟨h1, u, l, by rw [List.getElem?_set_ne hm]; exact h2, h3⟩
/-- whether a step of the last loop keeps what is wanted -/
theorem pow26 (j : Nat) : (2 : Nat) ^ (26 * (j + 1)) = 2 ^ (26 * j) * 67108864 := by
  rw [Nat.mul_succ, Nat.pow_add]
end D1
set_option Elab.async false
set_option linter.all false
set_option maxRecDepth 100000
set_option maxHeartbeats 4000000
set_option exponentiation.threshold 9000
namespace Lb
open PySem PySem.Spec L2 PM
section
variable {p q a b c : Rat} {s : List Cell}
abbrev Bk (q : Rat) : Prop := Bd 1900 q
def lo (x y : Rat) : Rat := if y < x then y else x
def hi (x y : Rat) : Rat := if x < y then y else x
@[simp] theorem seq_tup {ds : List D} : asSeq (.tup ds) = some ds := rfl
@[simp] theorem seq_lst {ds : List D} : asSeq (.lst ds) = some ds := rfl
@[simp] theorem ix_fr0 : opIx (fr q) (.int 0) = some (.sh (.int q.num)) := rfl
@[simp] theorem ix_fr1 : opIx (fr q) (.int 1) = some (.sh (.int (q.den : Int))) := rfl
end
end Lb
set_option Elab.async false
set_option linter.all false
set_option maxRecDepth 100000
set_option maxHeartbeats 4000000
set_option exponentiation.threshold 20000
namespace D2
open PySem PySem.Spec L2 PM Lb
open D1 (Fr Fr.refl Fr.trans fr_set low_loop pen draw_pre drawM sml_b pow26)
def tailD : MS := (mSeq (mSet 5 (mOp opAdd (mOp opMul (mOp opMod (mV 4) (mL (.int 4294967279))) (mL (.int 22695477))) (mOp opMul (mOp opMul (mL (.int 30011)) (mV 3)) (mV 3))))
  (mSeq (mSet 5 (mOp opMod (mOp opAdd (mOp opAdd (mV 5) (mOp opMul (mL (.int 104729)) (mV 3))) (mL (.int 23))) (mL (.int 4294967231))))
  (mSeq (mSet 5 (mOp opMod (mOp opAdd (mOp opAdd (mOp opAdd (mOp opMul (mV 5) (mV 5)) (mOp opMul (mL (.int 16777213)) (mV 5))) (mOp opMul (mL (.int 5)) (mV 3))) (mL (.int 1))) (mL (.int 4294967197))))
  (mRet (mOp opMod (mOp opFdv (mOp opMod (mOp opMul (mV 5) (mOp opAdd (mV 5) (mL (.int 33554393)))) (mL (.int 4294967291))) (mL (.int 64))) (mV 1))))))
theorem draw_eq : m__law_draw = drawM 43 17 tailD := rfl
/-- the script, and what stands ahead of the pen in the store -/
structure Scr where
  cs : List Int
  G : List Cell
def Pn (n : Nat) (cs : Scr) (N : Int) (store : List Cell) : Prop := D1.Pn n cs.cs N store ∧ cs.G.length ≤ n ∧ ∀ i, i < cs.G.length → store[i]? = cs.G[i]?
theorem Pn.le {n : Nat} {cs : Scr} {N M : Int} {s : List Cell} (h : Pn n cs N s) (hm : N ≤ M) : Pn n cs M s := ⟨h.1.le hm, h.2⟩
theorem Pn.app {n : Nat} {cs : Scr} {N : Int} {s t : List Cell} (h : Pn n cs N s) : Pn n cs N (s ++ t) := ⟨h.1.app, h.2.1, fun i hi => by
  obtain ⟨_, u, l, h2, _⟩ := h.1
  have := (List.getElem?_eq_some_iff.mp h2).1
  have k := h.2.1
  rw [List.getElem?_append_left (by omega)]
  exact h.2.2 i hi⟩
theorem Pn.set {n m : Nat} {cs : Scr} {N : Int} {s : List Cell} {c : Cell} (h : Pn n cs N s) (hm : n < m) : Pn n cs N (s.set m c) := ⟨h.1.set (by omega), h.2.1, fun i hi => by
  have k := h.2.1
  rw [List.getElem?_set_ne (by omega)]
  exact h.2.2 i hi⟩
theorem Pn.fr {n : Nat} {cs : Scr} {N M : Int} {s s' : List Cell} (h : Pn n cs N s) (f : Fr n s s') (p : D1.Pn n cs.cs M s') : Pn n cs M s' := ⟨p, h.2.1, fun i hi => by
  have k := h.2.1
  rw [f.2 i (by omega)]
  exact h.2.2 i hi⟩
theorem Pn.at0 {n : Nat} {cs : Scr} {N : Int} {s : List Cell} {c : Cell} {G : List Cell} (h : Pn n cs N s) (e : cs.G = c :: G) : s[0]? = some c := by
  rw [h.2.2 0 (by rw [e]; simp), e]
  rfl
theorem pn_len {n : Nat} {cs : Scr} {N : Int} {s : List Cell} (h : Pn n cs N s) : n < s.length := by
  obtain ⟨_, u, l, h2, _⟩ := h.1
  exact (List.getElem?_eq_some_iff.mp h2).1
section
variable {n : Nat} {cs : Scr} {N : Int} {store : List Cell}
theorem p_draw0 {cs : List Int} (many : Int) (h0 : 0 < many) (hb : many.natAbs < 2 ^ 7800) (h : D1.Pn n cs N store) (hN : N ≤ 900000000) :
    ∃ r store', F__law_draw [.obj n, .int many] store = .ret (.sh (.int r)) store' ∧ D1.Pn n cs (N + 1) store' ∧ Fr n store store' ∧ 0 ≤ r ∧ r < many := by
  obtain ⟨hc, u, l, hs, hu, hu2, hl⟩ := h
  have hn : n < store.length := (List.getElem?_eq_some_iff.mp hs).1
  have en : entry [.obj n, .int many] 4 = .sh (.obj n) :: .sh (.int many) :: .un :: .un :: .un :: [.un] := rfl
  rcases draw_pre 43 17 (by decide) tailD [.un] many n h0 (Nat.lt_of_lt_of_le hb (Nat.pow_le_pow_right (by decide) (by decide))) store cs u l hs hc hu (by omega) hl with ⟨r, u', l', env, h1, h2, h3, h4, h5, h6⟩ | ⟨c, h1⟩
  · refine ⟨r, _, ?_, ⟨hc, u', l', List.getElem?_set_self hn, by omega, by omega, h6⟩, fr_set, h2, h3⟩
    unfold F__law_draw runF
    rw [draw_eq, en, h1]
    rfl
  · have s1 := sml_b (x := u) (by omega) (by omega)
    have b1 : 0 ≤ c % 4294967279 ∧ c % 4294967279 < 4294967279 := ⟨Int.emod_nonneg _ (by decide), Int.emod_lt_of_pos _ (by decide)⟩
    have t1 := sml_b (x := c % 4294967279) (by omega) (by omega)
    have s11 : sml 22695477 = true := by decide
    have s40 : sml 30011 = true := by decide
    have s52 : sml 104729 = true := by decide
    have s16 : sml 16777213 = true := by decide
    have s5 : sml 5 = true := by decide
    have s3 := sml_b (x := 30011 * u) (by omega) (by omega)
    have o1 := opMod_i (i := c) (j := 4294967279) (by decide)
    have m1 : opMul (.int (c % 4294967279)) (.int 22695477) = some (.sh (.int (c % 4294967279 * 22695477))) := opMul_i t1 s11
    have m2 : opMul (.int 30011) (.int u) = some (.sh (.int (30011 * u))) := opMul_i s40 s1
    have m3 : opMul (.int (30011 * u)) (.int u) = some (.sh (.int (30011 * u * u))) := opMul_i s3 s1
    have m4 : opMul (.int 104729) (.int u) = some (.sh (.int (104729 * u))) := opMul_i s52 s1
    obtain ⟨x1, e1⟩ : ∃ x, x = c % 4294967279 * 22695477 + 30011 * u * u := ⟨_, rfl⟩
    have a1 : opAdd (.int (c % 4294967279 * 22695477)) (.int (30011 * u * u)) = some (.sh (.int x1)) := by rw [e1]; rfl
    have o2 := opMod_i (i := x1 + 104729 * u + 23) (j := 4294967231) (by decide)
    obtain ⟨x2, e2⟩ : ∃ x, x = (x1 + 104729 * u + 23) % 4294967231 := ⟨_, rfl⟩
    have b2 : 0 ≤ (x1 + 104729 * u + 23) % 4294967231 ∧ (x1 + 104729 * u + 23) % 4294967231 < 4294967231 := ⟨Int.emod_nonneg _ (by decide), Int.emod_lt_of_pos _ (by decide)⟩
    rw [← e2] at o2 b2
    have t2 := sml_b (x := x2) (by omega) (by omega)
    have m5 : opMul (.int x2) (.int x2) = some (.sh (.int (x2 * x2))) := opMul_i t2 t2
    have m6 : opMul (.int 16777213) (.int x2) = some (.sh (.int (16777213 * x2))) := opMul_i s16 t2
    have m7 : opMul (.int 5) (.int u) = some (.sh (.int (5 * u))) := opMul_i s5 s1
    have o3 := opMod_i (i := x2 * x2 + 16777213 * x2 + 5 * u + 1) (j := 4294967197) (by decide)
    obtain ⟨x3, e3⟩ : ∃ x, x = (x2 * x2 + 16777213 * x2 + 5 * u + 1) % 4294967197 := ⟨_, rfl⟩
    have b3 : 0 ≤ (x2 * x2 + 16777213 * x2 + 5 * u + 1) % 4294967197 ∧ (x2 * x2 + 16777213 * x2 + 5 * u + 1) % 4294967197 < 4294967197 := ⟨Int.emod_nonneg _ (by decide), Int.emod_lt_of_pos _ (by decide)⟩
    rw [← e3] at o3 b3
    have t3 := sml_b (x := x3) (by omega) (by omega)
    have t4 := sml_b (x := x3 + 33554393) (by omega) (by omega)
    have m8 : opMul (.int x3) (.int (x3 + 33554393)) = some (.sh (.int (x3 * (x3 + 33554393)))) := opMul_i t3 t4
    have o4 := opMod_i (i := x3 * (x3 + 33554393)) (j := 4294967291) (by decide)
    obtain ⟨y, ey⟩ : ∃ y, y = x3 * (x3 + 33554393) % 4294967291 := ⟨_, rfl⟩
    rw [← ey] at o4
    have o5 := opFdv_i (i := y) (j := 64) (by decide) (by decide)
    have oy := opMod_i (i := y / 64) h0
    refine ⟨y / 64 % many, _, ?_, ⟨hc, u + 1, l, List.getElem?_set_self hn, by omega, by omega, hl⟩, fr_set, Int.emod_nonneg _ (by omega), Int.emod_lt_of_pos _ h0⟩
    unfold F__law_draw runF
    rw [draw_eq, en, h1]
    clear h1 e1 e2 e3 ey
    simp [-opMul_i, -opMod_i, -opFdv_i, tailD, mV, o1, m1, m2, m3, a1, m4, o2, m5, m6, m7, o3, m8, o4, o5, oy]
theorem p_draw (many : Int) (h0 : 0 < many) (hb : many.natAbs < 2 ^ 7800) (h : Pn n cs N store) (hN : N ≤ 900000000) :
    ∃ r store', F__law_draw [.obj n, .int many] store = .ret (.sh (.int r)) store' ∧ Pn n cs (N + 1) store' ∧ Fr n store store' ∧ 0 ≤ r ∧ r < many := by
  obtain ⟨r, s', a, b, c, d⟩ := p_draw0 many h0 hb h.1 hN
  exact ⟨r, s', a, h.fr c b, c, d⟩
theorem nat_lt {m : Int} {k : Nat} (h : m.natAbs < 2 ^ k) (hk : k ≤ 7800) : m.natAbs < 2 ^ 7800 := Nat.lt_of_lt_of_le h (Nat.pow_le_pow_right (by decide) hk)
/-- a draw below a small number -/
theorem p_drawN (k : Nat) (h0 : 0 < k) (hb : k < 2 ^ 200) (h : Pn n cs N store) (hN : N ≤ 900000000) :
    ∃ (r : Nat) (store' : List Cell), F__law_draw [.obj n, .int k] store = .ret (.sh (.int r)) store' ∧ Pn n cs (N + 1) store' ∧ Fr n store store' ∧ r < k := by
  obtain ⟨r, s, h1, h2, h3, h4, h5⟩ := p_draw k (by omega) (nat_lt (k := 200) (by simpa using hb) (by decide)) h hN
  obtain ⟨j, rfl⟩ := Int.eq_ofNat_of_zero_le h4
  exact ⟨j, s, h1, h2, h3, by omega⟩
theorem p_pickV (od : D) (ds : List D) (h0 : ds ≠ []) (hb : ds.length ≤ 1000000) (hv : ∀ env s', Fr n store s' → view ⟨env, s'⟩ (.sh od) = some (.lst ds)) (h : Pn n cs N store) (hN : N ≤ 900000000) :
    ∃ d store', F__law_pick [.obj n, od] store = .ret (.sh d) store' ∧ Pn n cs (N + 1) store' ∧ Fr n store store' ∧ d ∈ ds := by
  have hp : 0 < ds.length := List.length_pos_iff.mpr h0
  obtain ⟨r, store', h1, h2, hf, h3⟩ := p_drawN ds.length hp (by
    have : (1000000 : Nat) < 2 ^ 200 := by decide
    omega) h hN
  have ix : opIx (.lst ds) (.int r) = some (.sh ds[r]) := by
    rw [opIx_l, atI_nat (j := r) (v := ds[r]) (List.getElem?_eq_getElem h3)]
    rfl
  have v1 := fun env => hv env store .refl
  have v2 := fun env => hv env store' hf
  have lc : opLen (.lst ds) = some (.sh (.int ((ds.length : Nat) : Int))) := rfl
  refine ⟨ds[r], store', ?_, h2, hf, List.getElem_mem h3⟩
  simp [F__law_pick, runF, m__law_pick, entry, mV, v1, v2, lc, h1, ix]
theorem p_pick (ds : List D) (h0 : ds ≠ []) (hb : ds.length ≤ 1000000) (h : Pn n cs N store) (hN : N ≤ 900000000) :
    ∃ d store', F__law_pick [.obj n, .lst ds] store = .ret (.sh d) store' ∧ Pn n cs (N + 1) store' ∧ Fr n store store' ∧ d ∈ ds := p_pickV (.lst ds) ds h0 hb (fun _ _ _ => rfl) h hN
theorem fPop_e {ds : List D} {i : Nat} (h : i < ds.length) (hb : i < 1000000) : fPop ds [.int i] = some (ds[i], ds.eraseIdx i) := by
  have e : ((i : Int)).toNat = i := rfl
  simp only [fPop]
  rw [if_pos ⟨by omega, by omega⟩, e, List.getElem?_eq_getElem h]
  rfl
theorem perm_move {α : Type} {a b l : List α} {i : Nat} (hi : i < a.length) (h : (b ++ a).Perm l) : (b ++ [a[i]] ++ a.eraseIdx i).Perm l := by
  refine List.Perm.trans ?_ h
  rw [List.append_assoc]
  refine List.Perm.append_left b ?_
  rw [List.singleton_append]
  exact L2.erase_perm a i _ (List.getElem?_eq_getElem hi)
theorem p_shuffled (ds : List D) (hd : ds.length ≤ 600000) (h : Pn n cs N store) (hN : N ≤ 800000000) :
    ∃ r store', F__law_shuffled [.obj n, .lst ds] store = .ret r store' ∧ ∃ es, r = .sh (.lst es) ∧ Pn n cs (N + ds.length) store' ∧ Fr n store store' ∧ es.Perm ds := by
  refine at_ret fun Z hZ => ?_
  simp [F__law_shuffled, runF, m__law_shuffled, entry, mV]
  refine at_while (fun st => ∃ (lf fd : List D) (s : List Cell), st = ⟨[.sh (.obj n), .sh (.lst ds), .ow (.ls lf), .ow (.ls fd)], s⟩ ∧ Pn n cs (N + fd.length) s ∧ Fr n store s ∧ (fd ++ lf).Perm ds)
    (fun st => match st.env with | [_, _, .ow (.ls lf), _] => lf.length | _ => 0)
    (fun st => ∃ (fd : List D) (s : List Cell), st = ⟨[.sh (.obj n), .sh (.lst ds), .ow (.ls []), .ow (.ls fd)], s⟩ ∧ Pn n cs (N + fd.length) s ∧ Fr n store s ∧ fd.Perm ds) ⟨ds, [], store, rfl, by simpa using h, .refl, by simp⟩ ?_ ?_ ?_
  · show ds.length < 1000000 + store.length
    omega
  · rintro _ ⟨lf, fd, s, rfl, hP, hF, hp⟩ Z h1 h2
    have hl := hp.length_eq
    rw [List.length_append] at hl
    by_cases he : lf = []
    · subst he
      simp [mV, view_lo, opNe_l0]
      exact h2 _ ⟨fd, s, rfl, hP, hF, by simpa using hp⟩
    · have hpos := List.length_pos_iff.mpr he
      obtain ⟨r, s2, a1, a2, a3, a4⟩ := p_drawN lf.length hpos (by
        have : (600000 : Nat) < 2 ^ 200 := by decide
        omega) hP (by omega)
      have ne : lf.isEmpty = false := by cases lf <;> simp at he ⊢
      have k1 : kMu3 fPop (.lo 2) [.int r] ⟨[.sh (.obj n), .sh (.lst ds), .ow (.ls lf), .ow (.ls fd)], s2⟩ = .ok (.sh lf[r]) ⟨[.sh (.obj n), .sh (.lst ds), .ow (.ls (lf.eraseIdx r)), .ow (.ls fd)], s2⟩ := mu_lo rfl (fPop_e a4 (by omega))
      have k2 : kMu3 fApp (.lo 3) [lf[r]] ⟨[.sh (.obj n), .sh (.lst ds), .ow (.ls (lf.eraseIdx r)), .ow (.ls fd)], s2⟩ = .ok (.sh .non) ⟨[.sh (.obj n), .sh (.lst ds), .ow (.ls (lf.eraseIdx r)), .ow (.ls (fd ++ [lf[r]]))], s2⟩ := mu_lo rfl (fApp_e (by unfold lim; omega))
      simp [mV, view_lo, opNe_l0, ne, a1, k1, k2]
      refine h1 _ ⟨lf.eraseIdx r, fd ++ [lf[r]], s2, rfl, by rw [List.length_append]; simpa [Int.add_assoc] using a2, hF.trans a3, perm_move a4 hp⟩ ?_
      show (lf.eraseIdx r).length < lf.length
      rw [List.length_eraseIdx, if_pos a4]
      omega
  · rintro _ ⟨fd, s, rfl, hP, hF, hp⟩
    simp [mV]
    exact hZ _ _ ⟨fd, rfl, by rw [← hp.length_eq]; exact hP, hF, hp⟩
end
end D2
set_option Elab.async false
set_option linter.all false
set_option maxRecDepth 100000
set_option maxHeartbeats 4000000
set_option exponentiation.threshold 9000
/-! any data: what the checks answer of it, how long its repr is -/
namespace Lb
open PySem PySem.Spec L2 PM
mutual
/-- data: ints of some 1,900 bits, texts of plain signs, dicts as they are -/
def dat : D → Bool
  | .non => true
  | .bl _ => true
  | .int i => decide (i.natAbs.log2 < 1900)
  | .str x => decide (x.length ≤ 100) && x.cps.toList.all fun c => decide (c < 4294967296)
  | .tup ds => dats ds
  | .lst ds => dats ds
  | .dct kvs => (D.pydk kvs).any fun ps => (PyData.dict ps).showable && (decide ((PyData.dict ps).depth ≤ 2) && decide ((PyData.dict ps).shown.length ≤ 100))
  | _ => false
def dats : List D → Bool
  | [] => true
  | d :: ds => dat d && dats ds
end
mutual
/-- how long its repr is at most -/
def wt : D → Nat
  | .int _ => 1921
  | .str x => 10 * x.length + 2
  | .tup ds => wts ds + 3
  | .lst ds => wts ds + 3
  | .dct _ => 100
  | _ => 5
def wts : List D → Nat
  | [] => 0
  | d :: ds => wt d + 2 + wts ds
end
mutual
def dep : D → Nat
  | .tup ds => deps ds + 1
  | .lst ds => deps ds + 1
  | .dct _ => 2
  | _ => 0
def deps : List D → Nat
  | [] => 0
  | d :: ds => max (dep d) (deps ds)
end
section
variable {s : List Cell} {st : State} {d : D} {ds es : List D}
@[simp] theorem dats_nil : dats [] = true := by simp only [dats]
@[simp] theorem dats_cons : dats (d :: ds) = (dat d && dats ds) := by simp only [dats]
@[simp] theorem dat_tup : dat (.tup ds) = dats ds := by simp only [dat]
@[simp] theorem dat_lst : dat (.lst ds) = dats ds := by simp only [dat]
@[simp] theorem dat_non : dat .non = true := by simp only [dat]
@[simp] theorem dat_bl {b : Bool} : dat (.bl b) = true := by simp only [dat]
@[simp] theorem dat_int {i : Int} : dat (.int i) = decide (i.natAbs.log2 < 1900) := by simp only [dat]
@[simp] theorem wts_nil : wts [] = 0 := by simp only [wts]
@[simp] theorem wts_cons : wts (d :: ds) = wt d + 2 + wts ds := by simp only [wts]
@[simp] theorem wt_tup : wt (.tup ds) = wts ds + 3 := by simp only [wt]
@[simp] theorem wt_lst : wt (.lst ds) = wts ds + 3 := by simp only [wt]
@[simp] theorem wt_non : wt .non = 5 := by simp only [wt]
@[simp] theorem wt_bl {b : Bool} : wt (.bl b) = 5 := by simp only [wt]
@[simp] theorem wt_int {i : Int} : wt (.int i) = 1921 := by simp only [wt]
@[simp] theorem deps_nil : deps [] = 0 := by simp only [deps]
@[simp] theorem deps_cons : deps (d :: ds) = max (dep d) (deps ds) := by simp only [deps]
@[simp] theorem dep_tup : dep (.tup ds) = deps ds + 1 := by simp only [dep]
@[simp] theorem dep_lst : dep (.lst ds) = deps ds + 1 := by simp only [dep]
@[simp] theorem dep_non : dep .non = 0 := by simp only [dep]
@[simp] theorem dep_bl {b : Bool} : dep (.bl b) = 0 := by simp only [dep]
@[simp] theorem dep_int {i : Int} : dep (.int i) = 0 := by simp only [dep]
theorem dats_app : dats (ds ++ es) = (dats ds && dats es) := by
  induction ds with
  | nil => simp
  | cons d ds ih => simp [ih, Bool.and_assoc]
theorem wts_app : wts (ds ++ es) = wts ds + wts es := by
  induction ds with
  | nil => simp
  | cons d ds ih => simp [ih]; omega
theorem deps_app : deps (ds ++ es) = max (deps ds) (deps es) := by
  induction ds with
  | nil => simp
  | cons d ds ih => simp [ih]
theorem dats_mem (h : dats ds = true) (hd : d ∈ ds) : dat d = true := by
  induction ds with
  | nil => cases hd
  | cons e ds ih =>
    simp only [dats_cons, Bool.and_eq_true] at h
    rcases List.mem_cons.mp hd with rfl | hd
    · exact h.1
    · exact ih h.2 hd
theorem dats_of (h : ∀ d ∈ ds, dat d = true) : dats ds = true := by
  induction ds with
  | nil => simp
  | cons e ds ih =>
    simp only [dats_cons, Bool.and_eq_true]
    exact ⟨h e List.mem_cons_self, ih fun d hd => h d (List.mem_cons_of_mem _ hd)⟩
theorem deps_mem (hd : d ∈ ds) : dep d ≤ deps ds := by
  induction ds with
  | nil => cases hd
  | cons e ds ih =>
    rw [deps_cons]
    rcases List.mem_cons.mp hd with rfl | hd
    · omega
    · have := ih hd; omega
theorem wts_len : 2 * ds.length ≤ wts ds := by
  induction ds with
  | nil => simp
  | cons e ds ih => rw [wts_cons, List.length_cons]; omega
theorem wts_take (n : Nat) : wts (ds.take n) + wts (ds.drop n) = wts ds := by rw [← wts_app, List.take_append_drop]
theorem shw_dat : ∀ {d : D}, dat d = true → Shw (dep d) (wt d) d := by
  have A : ∀ n : Nat, (∀ d : D, sizeOf d ≤ n → dat d = true → Shw (dep d) (wt d) d) := by
    intro n
    induction n with
    | zero =>
      intro d h
      cases d <;> simp at h
    | succ n ih =>
      have L : ∀ ds : List D, sizeOf ds ≤ n → dats ds = true → Shws (deps ds) (wts ds) ds := by
        intro ds
        induction ds with
        | nil => intro _ _; simpa using shws_nil 0
        | cons d ds ih2 =>
          intro hs h
          simp only [dats_cons, Bool.and_eq_true] at h
          simp only [List.cons.sizeOf_spec] at hs
          have h1 := ih d (by omega) h.1
          have h2 := ih2 (by omega) h.2
          rw [wts_cons, deps_cons]
          obtain ⟨ps, f1, f2, f3, f4⟩ := h2
          exact shws_cons (h1.mono (Nat.le_max_left ..) (Nat.le_refl _)) ⟨ps, f1, f2, Nat.le_trans f3 (Nat.le_max_right ..), f4⟩
      intro d hs h
      cases d with
      | non => exact shw_non.mono (by simp) (by simp)
      | bl b => exact (shw_bl b).mono (by simp) (by simp)
      | int i =>
        simp only [dat_int, decide_eq_true_eq] at h
        exact (shw_int (by omega)).mono (by simp) (by simp)
      | str x =>
        simp only [dat, Bool.and_eq_true, decide_eq_true_eq, List.all_eq_true] at h
        exact (shw_str fun c hc => h.2 c hc).mono (by simp) (by simp only [wt]; omega)
      | tup ds =>
        simp only [D.tup.sizeOf_spec] at hs
        rw [dat_tup] at h
        exact (shw_tup (L ds (by omega) h)).mono (by simp) (by simp)
      | lst ds =>
        simp only [D.lst.sizeOf_spec] at hs
        rw [dat_lst] at h
        exact (shw_lst (L ds (by omega) h)).mono (by simp) (by simp)
      | dct kvs =>
        simp only [dat, Option.any_eq_true, Bool.and_eq_true, decide_eq_true_eq] at h
        obtain ⟨ps, h1, h2, h3, h4⟩ := h
        exact ⟨.dict ps, by simp only [D.pyd, h1]; rfl, h2, by simpa only [dep] using h3, by simpa only [wt] using h4⟩
      | _ => simp [dat] at h
  exact fun {d} h => A (sizeOf d) d (Nat.le_refl _) h
theorem rep_dat (h : dat d = true) (hd : dep d ≤ 64) (hw : wt d ≤ lim) : opRepr d = some (.sh (.str (shw d))) := opRepr_e (shw_dat h) hd hw
theorem view_dat (h : dat d = true) : view st (.sh d) = some d := by cases d <;> first | rfl | simp [dat] at h
/-! what kind it is of -/
def isI : D → Bool
  | .int _ => true
  | _ => false
theorem k_isi (T : String) (k : String) (b : Bool) (h1 : opKind d = some k) (h2 : kitB k T = some b) : opIsi d (.val (.ty T)) = some (.sh (.bl b)) := by simp [opIsi, h1, h2]
theorem k_isi2 (k : String) (b : Bool) (h1 : opKind d = some k) (h2 : kitBs k ["list", "tuple"] = some b) : opIsi d (.tup [.val (.ty "list"), .val (.ty "tuple")]) = some (.sh (.bl b)) := by
  have e : tysOf [D.val (.ty "list"), D.val (.ty "tuple")] = some ["list", "tuple"] := rfl
  simp [opIsi, h1, h2, e]
theorem s_isI (h : dat d = true) : F_is_integer [d] s = .ret (.sh (.bl (isI d))) s := by
  have g : ∀ k b1 b2, opKind d = some k → kitB k "int" = some b1 → kitB k "bool" = some b2 → (b1 && !b2) = isI d → F_is_integer [d] s = .ret (.sh (.bl (isI d))) s := by
    intro k b1 b2 h1 h2 h3 h4
    have e1 := k_isi "int" k b1 h1 h2
    have e2 := k_isi "bool" k b2 h1 h3
    have hv := fun st => view_dat (st := st) h
    rw [← h4]
    cases b1 <;> simp [F_is_integer, runF, m_is_integer, entry, mV, hv, e1, e2]
  cases d with
  | non => exact g "NoneType" false false rfl (by decide +kernel) (by decide +kernel) rfl
  | bl c => exact g "bool" true true rfl (by decide +kernel) (by decide +kernel) rfl
  | int i => exact g "int" true false rfl (by decide +kernel) (by decide +kernel) rfl
  | str z => exact g "str" false false rfl (by decide +kernel) (by decide +kernel) rfl
  | tup ds => exact g "tuple" false false rfl (by decide +kernel) (by decide +kernel) rfl
  | lst ds => exact g "list" false false rfl (by decide +kernel) (by decide +kernel) rfl
  | dct kvs => exact g "dict" false false rfl (by decide +kernel) (by decide +kernel) rfl
  | _ => simp [dat] at h
def isT : D → Bool
  | .tup _ => true
  | _ => false
def isTn (n : Int) : D → Bool
  | .tup ds => decide ((ds.length : Int) = n)
  | _ => false
theorem e_isT (h : dat d = true) : opIsi d (.val (.ty "tuple")) = some (.sh (.bl (isT d))) := by
  cases d <;> first | exact k_isi _ _ true rfl (by decide +kernel) | exact k_isi _ _ false rfl (by decide +kernel) | (simp [dat] at h; done)
def isL : D → Bool
  | .lst _ => true
  | _ => false
theorem e_isL (h : dat d = true) : opIsi d (.val (.ty "list")) = some (.sh (.bl (isL d))) := by
  cases d <;> first | exact k_isi _ _ true rfl (by decide +kernel) | exact k_isi _ _ false rfl (by decide +kernel) | (simp [dat] at h; done)
def isB : D → Bool
  | .bl _ => true
  | _ => false
theorem e_isB (h : dat d = true) : opIsi d (.val (.ty "bool")) = some (.sh (.bl (isB d))) := by
  cases d <;> first | exact k_isi _ _ true rfl (by decide +kernel) | exact k_isi _ _ false rfl (by decide +kernel) | (simp [dat] at h; done)
theorem e_isIn (h : dat d = true) : opIsi d (.val (.ty "int")) = some (.sh (.bl (isI d || isB d))) := by
  cases d <;> first | exact k_isi _ _ true rfl (by decide +kernel) | exact k_isi _ _ false rfl (by decide +kernel) | (simp [dat] at h; done)
theorem e_isLT (h : dat d = true) : opIsi d (.tup [.val (.ty "list"), .val (.ty "tuple")]) = some (.sh (.bl (isL d || isT d))) := by
  cases d <;> first | exact k_isi2 _ true rfl (by decide +kernel) | exact k_isi2 _ false rfl (by decide +kernel) | (simp [dat] at h; done)
theorem s_isTn (h : dat d = true) (n : Int) : F_is_tuple_of [d, .int n] s = .ret (.sh (.bl (isTn n d))) s := by
  have e := e_isT h
  have hv := fun st => view_dat (st := st) h
  by_cases ht : isT d = true
  · cases d <;> simp [isT] at ht
    simp [F_is_tuple_of, runF, m_is_tuple_of, entry, mV, e, isT, isTn]
  · have hn : isTn n d = false := by cases d <;> first | rfl | simp [isT] at ht
    rw [Bool.not_eq_true] at ht
    rw [ht] at e
    rw [hn]
    simp [F_is_tuple_of, runF, m_is_tuple_of, entry, mV, e, hv]
/-- whether it is a fraction -/
def isFr : D → Bool
  | .tup [.int n, .int d] => decide (0 < d) && decide (Int.gcd n d = 1)
  | _ => false
theorem lg_of {i : Int} (h : i.natAbs.log2 < 1900) : i.natAbs < 2 ^ 1900 := by
  by_cases h0 : i.natAbs = 0
  · rw [h0]; exact Nat.two_pow_pos _
  · exact (Nat.log2_lt h0).mp h
theorem s_isFr (h : dat d = true) : F_is_fraction [d] s = .ret (.sh (.bl (isFr d))) s := by
  have t := s_isTn (s := s) h 2
  have hv := fun st => view_dat (st := st) h
  by_cases ht : isTn 2 d = true
  · match d, ht with
    | .tup ds, ht =>
      simp only [isTn, decide_eq_true_eq] at ht
      match ds, ht with
      | [a, b], _ =>
        simp only [dat_tup, dats_cons, dats_nil, Bool.and_true, Bool.and_eq_true] at h
        have ea := s_isI (s := s) h.1
        have eb := s_isI (s := s) h.2
        have hva := fun st => view_dat (st := st) h.1
        have hvb := fun st => view_dat (st := st) h.2
        by_cases ia : isI a = true
        · by_cases ib : isI b = true
          · obtain ⟨i, rfl⟩ : ∃ i, a = .int i := by cases a <;> first | exact ⟨_, rfl⟩ | simp [isI] at ia
            obtain ⟨j, rfl⟩ : ∃ j, b = .int j := by cases b <;> first | exact ⟨_, rfl⟩ | simp [isI] at ib
            by_cases hj : 0 < j
            · have e : decide (Int.gcd i j = 1) = decide (((Int.gcd i j : Nat) : Int) = 1) := decide_eq_decide.mpr (by omega)
              simp [F_is_fraction, runF, m_is_fraction, entry, mV, t, isTn, ea, eb, isI, hj, s_divisor, isFr, e]
            · simp [F_is_fraction, runF, m_is_fraction, entry, mV, t, isTn, ea, eb, isI, hj, isFr]
          · have z : isFr (.tup [a, b]) = false := by
              cases b <;> first | (simp [isI] at ib; done) | (cases a <;> rfl)
            rw [Bool.not_eq_true] at ib
            rw [z]
            simp [F_is_fraction, runF, m_is_fraction, entry, mV, t, isTn, ea, eb, ia, ib]
        · have z : isFr (.tup [a, b]) = false := by
            cases a <;> first | (simp [isI] at ia; done) | rfl
          rw [Bool.not_eq_true] at ia
          rw [z]
          simp [F_is_fraction, runF, m_is_fraction, entry, mV, t, isTn, ea, ia]
  · have z : isFr d = false := by
      match d with
      | .tup [.int n, .int k] => simp [isTn] at ht
      | .tup [] => rfl
      | .tup [a] => cases a <;> rfl
      | .tup (a :: b :: c :: r) => cases a <;> first | rfl | (cases b <;> rfl)
      | .tup [a, b] => simp [isTn] at ht
      | .non | .bl _ | .int _ | .str _ | .lst _ | .lsF _ | .tpF _ | .dct _ | .dcT _ | .obj _ | .rcd _ _ | .exn0 _ | .exn _ _ | .cls _ | .val _ => rfl
    rw [Bool.not_eq_true] at ht
    rw [z]
    simp [F_is_fraction, runF, m_is_fraction, entry, mV, t, ht, hv]
end
end Lb
namespace Lb
open PySem PySem.Spec L2 PM
/-! slices -/
section
variable {d : D} {ds es : List D}
theorem dats_sub (h : ds.Sublist es) (k : dats es = true) : dats ds = true := dats_of fun d hd => dats_mem k (h.mem hd)
theorem deps_le {n : Nat} (h : ∀ d ∈ ds, dep d ≤ n) : deps ds ≤ n := by
  induction ds with
  | nil => simp
  | cons a ds ih => rw [deps_cons]; exact Nat.max_le.mpr ⟨h a List.mem_cons_self, ih fun d hd => h d (List.mem_cons_of_mem _ hd)⟩
theorem deps_sub (h : ds.Sublist es) : deps ds ≤ deps es := deps_le fun d hd => deps_mem (h.mem hd)
theorem wts_rev : wts ds.reverse = wts ds := by
  induction ds with
  | nil => simp
  | cons a ds ih => rw [List.reverse_cons, wts_app, ih]; simp; omega
theorem deps_rev : deps ds.reverse ≤ deps ds := deps_le fun d hd => deps_mem (List.mem_reverse.mp hd)
theorem dats_rev (h : dats ds = true) : dats ds.reverse = true := dats_of fun d hd => dats_mem h (List.mem_reverse.mp hd)
theorem wts_at {k : Nat} (h : ds[k]? = some d) : wts (ds.take k) + (wt d + 2) + wts (ds.drop (k + 1)) = wts ds := by
  obtain ⟨hk, rfl⟩ := List.getElem?_eq_some_iff.mp h
  have e : ds.take k ++ ds[k] :: ds.drop (k + 1) = ds := by rw [List.getElem_cons_drop, List.take_append_drop]
  have := congrArg wts e
  rw [wts_app, wts_cons] at this
  omega
mutual
/-- no dicts, smaller ints -/
def nb : D → Bool
  | .non => true
  | .bl _ => true
  | .int i => decide (i.natAbs.log2 < 1800)
  | .tup ds => nbs ds
  | .lst ds => nbs ds
  | _ => false
def nbs : List D → Bool
  | [] => true
  | d :: ds => nb d && nbs ds
end
/-- r holds the value d -/
def Is (r : RV) (d : D) : Prop := r = .sh d ∨ ∃ ds, r = .ow (.ls ds) ∧ d = .lst ds
theorem Is.frz {r : RV} {st : State} (h : Is r d) : RV.frz r st = .ok d st := by
  rcases h with rfl | ⟨ds, rfl, rfl⟩ <;> rfl
theorem Is.bor {r : RV} (h : Is r d) : r.bor = .sh d := by
  rcases h with rfl | ⟨ds, rfl, rfl⟩ <;> rfl
theorem Is.of {r : RV} {st : State} {s : List Cell} (h : Is r d) : ofF st (.ret r s) = .ok r { st with store := s } := by
  rcases h with rfl | ⟨ds, rfl, rfl⟩ <;> rfl
theorem Is.at {r : RV} {st : State} {s : List Cell} {Z : Out RV → Prop} (h : Is r d) : At (.ret r s) (zOf st Z) = At (.ok r { st with store := s }) Z := by
  rcases h with rfl | ⟨ds, rfl, rfl⟩ <;> rfl
theorem is_sh : Is (.sh d) d := .inl rfl
theorem is_ow : Is (.ow (.ls ds)) (.lst ds) := .inr ⟨ds, rfl, rfl⟩
end
end Lb
set_option Elab.async false
set_option linter.all false
set_option maxRecDepth 100000
set_option maxHeartbeats 4000000
set_option exponentiation.threshold 9000
/-! pairs of ends of wishes -/
namespace Lb
open PySem PySem.Spec L2 PM
abbrev O := Option Rat
abbrev Pr := O × O
def op : O → D
  | none => .non
  | some q => fr q
def pr (p : Pr) : D := .tup [op p.1, op p.2]
def wi (ps : List Pr) : D := .rcd "Wishes" [("kept", .tup (ps.map pr))]
section
variable {s : List Cell} {st : State} {o a b : O} {p q : Pr} {ps qs : List Pr}
@[simp] theorem is_op : opIs2 (op o) .non = some o.isNone := by cases o <;> rfl
@[simp] theorem isn_op : opIsNot2 (op o) .non = some o.isSome := by cases o <;> rfl
@[simp] theorem view_op : view st (.sh (op o)) = some (op o) := by cases o <;> rfl
@[simp] theorem view_pr : view st (.sh (pr p)) = some (pr p) := rfl
@[simp] theorem op_s {r : Rat} : op (some r) = fr r := rfl
@[simp] theorem is_fr {r : Rat} : opIs2 (fr r) .non = some false := rfl
@[simp] theorem isn_fr {r : Rat} : opIsNot2 (fr r) .non = some true := rfl
/-! equality -/
def po : O → PyData
  | none => .none
  | some q => .tuple [.int q.num, .int (q.den : Int)]
def pp (p : Pr) : PyData := .tuple [po p.1, po p.2]
end
end Lb
set_option Elab.async false
set_option linter.all false
set_option maxRecDepth 100000
set_option maxHeartbeats 4000000
set_option exponentiation.threshold 20000
/-! fractions and pairs of ends as data -/
namespace Lb
open PySem PySem.Spec L2 PM
section
variable {q : Rat} {p : Pr} {ps : List Pr} {qs : List Rat} {o : O} {k : Nat}
theorem log_lt' {i : Int} {k : Nat} (h : i.natAbs < 2 ^ k) (hk : 0 < k) : i.natAbs.log2 < k := by
  by_cases h0 : i.natAbs = 0
  · rw [h0]; simpa using hk
  · exact (Nat.log2_lt h0).mpr h
theorem dat_fr (h : Bk q) : dat (fr q) = true := by
  have h2 : ((q.den : Int)).natAbs < 2 ^ 1900 := by simpa using h.2
  simp only [fr, dat_tup, dats_cons, dat_int, dats_nil, Bool.and_true, Bool.and_eq_true, decide_eq_true_eq]
  exact ⟨log_lt' h.1 (by decide), log_lt' h2 (by decide)⟩
theorem wt_fr : wt (fr q) = 3849 := by simp [fr]
theorem dep_fr : dep (fr q) = 1 := by simp [fr]
end
end Lb
set_option Elab.async false
set_option linter.all false
set_option maxRecDepth 100000
set_option maxHeartbeats 4000000
namespace D2
open PySem PySem.Spec L2 PM
end D2
set_option Elab.async false
set_option linter.all false
set_option maxRecDepth 100000
set_option maxHeartbeats 4000000
namespace Lb
open PySem PySem.Spec L2 PM
end Lb
set_option Elab.async false
set_option linter.all false
set_option maxRecDepth 100000
set_option maxHeartbeats 4000000
namespace Nw
open PySem PySem.Spec L2 PM
open Lb (F_is_tuple_of)
end Nw
set_option Elab.async false
set_option linter.all false
set_option maxRecDepth 100000
set_option maxHeartbeats 4000000
set_option exponentiation.threshold 20000
namespace D2
open PySem PySem.Spec L2 PM Lb
open D1 (Fr Fr.refl Fr.trans fr_set pen sml_b)
theorem o6 : opPow (.int 10) (.int 6) = some (.sh (.int 1000000)) := rfl
theorem o30 : opPow (.int 10) (.int 30) = some (.sh (.int 1000000000000000000000000000000)) := rfl
theorem sml36 {x : Int} (h0 : 0 ≤ x) (h1 : x < 1000000000000000000000000000000000000) : sml x = true := sml_of (k := 200) (by omega) (by omega)
def cnt (sz : Int) : Nat := if sz < 1000000 then 6 else if sz < 1000000000000 then 5 else if sz < 1000000000000000000 then 4 else if sz < 1000000000000000000000000 then 3 else if sz < 1000000000000000000000000000000 then 2 else if sz < 1000000000000000000000000000000000000 then 1 else 0
theorem cnt_lt : ∀ k, k < 6 → cnt ((1000000 ^ (k + 1) : Nat) : Int) < cnt ((1000000 ^ k : Nat) : Int) := by decide
theorem pk (k : Nat) : ((1000000 ^ (k + 1) : Nat) : Int) = ((1000000 ^ k : Nat) : Int) * 1000000 := by
  rw [Nat.pow_succ, Int.natCast_mul]
  rfl
theorem cnt_le (z : Int) : cnt z ≤ 6 := by
  unfold cnt
  repeat' split
  all_goals omega
section
variable {n : Nat} {cs : D2.Scr} {N : Int} {store : List Cell}
theorem p_wide (many : Int) (h0 : 0 < many) (hb : many ≤ 1000000000000000000000000000001) (h : Pn n cs N store) (hN : N ≤ 800000000) :
    ∃ r store', F__law_wide [.obj n, .int many] store = .ret r store' ∧ ∃ i : Int, r = .sh (.int i) ∧ Pn n cs (N + 6) store' ∧ Fr n store store' ∧ 0 ≤ i ∧ i < many := by
  refine at_ret fun Z hZ => ?_
  simp [F__law_wide, runF, m__law_wide, entry, mV]
  refine at_while (fun st => ∃ (k : Nat) (f sz : Int) (s : List Cell), st = ⟨[.sh (.obj n), .sh (.int many), .sh (.int f), .sh (.int sz)], s⟩ ∧ k ≤ 6 ∧ sz = ((1000000 ^ k : Nat) : Int) ∧ 0 ≤ f ∧ f < sz ∧ Pn n cs (N + k) s ∧ Fr n store s)
    (fun st => match st.env with | [_, _, _, .sh (.int sz)] => cnt sz | _ => 0)
    (fun st => ∃ (f sz : Int) (s : List Cell), st = ⟨[.sh (.obj n), .sh (.int many), .sh (.int f), .sh (.int sz)], s⟩ ∧ 0 ≤ f ∧ Pn n cs (N + 6) s ∧ Fr n store s) ⟨0, 0, 1, store, rfl, by omega, by simp, by omega, by omega, by simpa using h, .refl⟩ ?_ ?_ ?_
  · show cnt 1 < 100 + store.length
    have := cnt_le 1
    omega
  · rintro _ ⟨k, f, sz, s, rfl, hk, hs, h2, h3, hP, hF⟩ Z h1 h4
    by_cases hc : sz < many
    · have hk' : k < 6 := by
        rcases Nat.lt_or_ge k 6 with q | q
        · exact q
        · have : k = 6 := by omega
          subst this
          have e : ((1000000 ^ 6 : Nat) : Int) = 1000000000000000000000000000000000000 := by decide
          rw [e] at hs
          omega
      obtain ⟨r, s2, a1, a2, a3, a4, a5⟩ := p_draw 1000000 (by decide) (nat_lt (k := 20) (by decide) (by decide)) hP (by omega)
      have hsz : sz ≤ 1000000000000000000000000000001 := by omega
      have m1 : opMul (.int f) (.int 1000000) = some (.sh (.int (f * 1000000))) := opMul_i (sml36 h2 (by omega)) (by decide)
      have m2 : opMul (.int sz) (.int 1000000) = some (.sh (.int (sz * 1000000))) := opMul_i (sml36 (by omega) (by omega)) (by decide)
      simp [-opMul_i, mV, hc, o6, a1, m1, m2]
      refine h1 _ ⟨k + 1, f * 1000000 + r, sz * 1000000, s2, rfl, by omega, by rw [hs, pk], by omega, by omega, a2.le (by push_cast; omega), hF.trans a3⟩ ?_
      show cnt (sz * 1000000) < cnt sz
      have := cnt_lt k hk'
      rw [pk] at this
      rw [hs]
      exact this
    · simp [mV, hc]
      exact h4 _ ⟨f, sz, s, rfl, h2, hP.le (by omega), hF⟩
  · rintro _ ⟨f, sz, s, rfl, h2, hP, hF⟩
    have om := opMod_i (i := f) h0
    simp [-opMod_i, mV, om]
    exact hZ _ _ ⟨_, rfl, hP, hF, Int.emod_nonneg _ (by omega), Int.emod_lt_of_pos _ h0⟩
theorem opIx_at {ds : List D} {i : Nat} (h : i < ds.length) : opIx (.lst ds) (.int i) = some (.sh ds[i]) := by
  rw [opIx_l, atI_nat (j := i) (v := ds[i]) (List.getElem?_eq_getElem h)]
  rfl
theorem p_gain (w : Nat) (hw : w < 4) (h : Pn n cs N store) (hN : N ≤ 700000000) :
    ∃ r store', F__law_gain [.obj n, .int w] store = .ret r store' ∧ ∃ i : Int, r = .sh (.int i) ∧ Pn n cs (N + 10) store' ∧ Fr n store store' ∧ -1000000000000000000000000000000 ≤ i ∧ i ≤ 1000000000000000000000000000000 := by
  refine at_ret fun Z hZ => ?_
  by_cases h3 : w = 3
  · subst h3
    obtain ⟨r, s1, a1, a2, a3, a4⟩ := p_drawN 2 (by decide) (by decide) h (by omega)
    obtain ⟨_, s2, b1, y, rfl, b2, b3, b4, b5⟩ := p_wide 1000000000000000000000000000001 (by decide) (by decide) a2 (by omega)
    have a1' : F__law_draw [.obj n, .int 2] store = .ret (.sh (.int r)) s1 := a1
    have sy : sml y = true := sml36 b4 (by omega)
    rcases (by omega : r = 0 ∨ r = 1) with rfl | rfl
    · have m : opMul (.int 1) (.int y) = some (.sh (.int (1 * y))) := opMul_i (by decide) sy
      have ix : opIx (.lst [.int 1, .int (-1)]) (.int ((0 : Nat) : Int)) = some (.sh (.int 1)) := opIx_at (by decide)
      simp [-opMul_i, F__law_gain, runF, m__law_gain, entry, mV, a1', o30, b1, ix, m]
      exact hZ _ _ ⟨_, rfl, b2.le (by omega), a3.trans b3, by omega, by omega⟩
    · have m : opMul (.int (-1)) (.int y) = some (.sh (.int (-1 * y))) := opMul_i (by decide) sy
      have ix : opIx (.lst [.int 1, .int (-1)]) (.int ((1 : Nat) : Int)) = some (.sh (.int (-1))) := opIx_at (by decide)
      simp [-opMul_i, F__law_gain, runF, m__law_gain, entry, mV, a1', o30, b1, ix, m]
      exact hZ _ _ ⟨_, rfl, b2.le (by omega), a3.trans b3, by omega, by omega⟩
  · have hne : ¬ ((w : Int) = 3) := by omega
    obtain ⟨x, s1, a1, a2, a3, a4⟩ := p_drawN 7 (by decide) (by decide) h (by omega)
    obtain ⟨y, s2, b1, b2, b3, b4⟩ := p_drawN 2 (by decide) (by decide) a2 (by omega)
    obtain ⟨z, s3, c1, c2, c3, c4⟩ := p_pick [.int 0, .int 0, .int 6, .int (-6)] (by simp) (by decide) b2 (by omega)
    obtain ⟨zi, rfl, hz⟩ : ∃ zi : Int, z = .int zi ∧ -6 ≤ zi ∧ zi ≤ 6 := by
      simp only [List.mem_cons, List.not_mem_nil, or_false] at c4
      rcases c4 with rfl | rfl | rfl | rfl
      · exact ⟨_, rfl, by decide⟩
      · exact ⟨_, rfl, by decide⟩
      · exact ⟨_, rfl, by decide⟩
      · exact ⟨_, rfl, by decide⟩
    have a1' : F__law_draw [.obj n, .int 7] store = .ret (.sh (.int x)) s1 := a1
    have b1' : F__law_draw [.obj n, .int 2] s1 = .ret (.sh (.int y)) s2 := b1
    have ix := opIx_at (ds := [.int ((x : Int) - 3), .int y, .int zi]) (i := w) (by simp; omega)
    simp [F__law_gain, runF, m__law_gain, entry, mV, hne, a1', b1', c1, ix]
    rcases (by omega : w = 0 ∨ w = 1 ∨ w = 2) with rfl | rfl | rfl
    · exact hZ _ _ ⟨_, rfl, c2.le (by omega), a3.trans (b3.trans c3), by omega, by omega⟩
    · exact hZ _ _ ⟨_, rfl, c2.le (by omega), a3.trans (b3.trans c3), by omega, by omega⟩
    · exact hZ _ _ ⟨_, rfl, c2.le (by omega), a3.trans (b3.trans c3), by omega, by omega⟩
end
end D2
set_option Elab.async false
set_option linter.all false
set_option maxRecDepth 100000
set_option maxHeartbeats 4000000
set_option exponentiation.threshold 20000
namespace D2
open PySem PySem.Spec L2 PM Lb
open D1 (Fr Fr.refl Fr.trans fr_set pen sml_b)
/-- a name's signs -/
def NmL (l : List Nat) : Prop := 1 ≤ l.length ∧ l.length ≤ 8 ∧ ∀ c ∈ l, 97 ≤ c ∧ c ≤ 122
def nmD (l : List Nat) : D := .str (tx l)
section
variable {n : Nat} {cs : D2.Scr} {N : Int} {store : List Cell}
theorem rng_get {n j : Nat} {d : D} (h : (rng 0 n)[j]? = some d) : d = .int (j : Int) ∧ j < n := by
  have hj : j < n := by
    have := (List.getElem?_eq_some_iff.mp h).1
    rwa [rng_len] at this
  refine ⟨?_, hj⟩
  simp only [rng, List.getElem?_map, List.getElem?_range hj, Option.map_some, Option.some.injEq] at h
  rw [← h, Int.zero_add]
def bk : D → List Nat
  | .str z => z.cps.toList
  | _ => []
theorem perm_nm {es : List D} {L : List (List Nat)} (h : es.Perm (L.map nmD)) : ∃ L' : List (List Nat), es = L'.map nmD ∧ L'.Perm L := by
  refine ⟨es.map bk, ?_, ?_⟩
  · rw [List.map_map]
    refine ((List.map_congr_left fun e he => ?_).trans (List.map_id es)).symm
    obtain ⟨l, _, rfl⟩ := List.mem_map.mp (h.mem_iff.mp he)
    rfl
  · have := h.map bk
    rw [List.map_map] at this
    have e : L.map (bk ∘ nmD) = L := (List.map_congr_left fun l _ => rfl).trans (List.map_id L)
    rwa [e] at this
/-- names -/
def nmsD (ls : List (List Nat)) : D := .lst (ls.map nmD)
end
end D2
set_option Elab.async false
set_option linter.all false
set_option maxRecDepth 100000
set_option maxHeartbeats 4000000
set_option exponentiation.threshold 20000
namespace D2
open PySem PySem.Spec L2 PM Lb
open D1 (Fr Fr.refl Fr.trans fr_set pen sml_b up_dc)
/-! ### networks as data -/
abbrev Row : Type := List (List Nat × List Int)
def gD (g : List Int) : D := .tup (g.map .int)
def rowK (r : Row) : List (Key × D) := r.map fun p => (.inr (tx p.1), gD p.2)
def ownK (O : List (List Nat × Int)) : List (Key × D) := O.map fun p => (.inr (tx p.1), .int p.2)
def rowsK (R : List (List Nat × Row)) : List (Key × D) := R.map fun p => (.inr (tx p.1), .dct (rowK p.2))
/-- gains for m players -/
def Gn (m : Nat) (g : List Int) : Prop := g.length = m ∧ ∀ x ∈ g, -1000000000000000000000000000000 ≤ x ∧ x ≤ 1000000000000000000000000000000
structure GRow (m : Nat) (us : List (List Nat)) (r : Row) : Prop where
  len : r.length ≤ 3
  nd : (r.map (·.1)).Nodup
  sub : ∀ v ∈ r.map (·.1), v ∈ us
  gn : ∀ p ∈ r, Gn m p.2
structure Good (m : Nat) (O : List (List Nat × Int)) (R : List (List Nat × Row)) : Prop where
  m1 : 1 ≤ m
  m3 : m ≤ 3
  eq : R.map (·.1) = O.map (·.1)
  nd : (O.map (·.1)).Nodup
  l1 : 1 ≤ O.length
  l8 : O.length ≤ 8
  nm : ∀ u ∈ O.map (·.1), NmL u
  ow : ∀ p ∈ O, 0 ≤ p.2 ∧ p.2 < m
  rw : ∀ p ∈ R, p.2 ≠ [] ∧ GRow m (O.map (·.1)) p.2
/-- an edge more, or another one's gains -/
def rput (r : Row) (v : List Nat) (g : List Int) : Row := if v ∈ r.map (·.1) then r.map (fun p => if p.1 = v then (p.1, g) else p) else r ++ [(v, g)]
theorem key_in {r : Row} {v : List Nat} : ((rowK r).any fun kv => decide (kv.1 = .inr (tx v))) = true ↔ v ∈ r.map (·.1) := by
  rw [List.any_eq_true]
  refine ⟨fun ⟨x, h1, h2⟩ => ?_, fun h => ?_⟩
  · obtain ⟨p, hp, rfl⟩ := List.mem_map.mp h1
    have := tx_inj (Sum.inr.inj (of_decide_eq_true h2))
    exact List.mem_map.mpr ⟨p, hp, this⟩
  · obtain ⟨p, hp, rfl⟩ := List.mem_map.mp h
    exact ⟨_, List.mem_map.mpr ⟨p, hp, rfl⟩, decide_eq_true rfl⟩
theorem dput_row {r : Row} {v : List Nat} {g : List Int} : dput (rowK r) (.inr (tx v)) (gD g) = rowK (rput r v g) := by
  unfold dput rput
  by_cases h : v ∈ r.map (·.1)
  · rw [if_pos (key_in.mpr h), if_pos h]
    unfold rowK
    rw [List.map_map, List.map_map]
    refine List.map_congr_left fun p _ => ?_
    by_cases hp : p.1 = v
    · simp [hp]
    · have : ¬ (Sum.inr (tx p.1) : Key) = .inr (tx v) := fun z => hp (tx_inj (Sum.inr.inj z))
      simp [hp, this]
  · rw [if_neg (fun z => h (key_in.mp z)), if_neg h]
    simp [rowK]
theorem rput_keys {r : Row} {v : List Nat} {g : List Int} : (rput r v g).map (·.1) = if v ∈ r.map (·.1) then r.map (·.1) else r.map (·.1) ++ [v] := by
  unfold rput
  by_cases h : v ∈ r.map (·.1)
  · rw [if_pos h, if_pos h, List.map_map]
    refine List.map_congr_left fun p _ => ?_
    show (if p.1 = v then (p.1, g) else p).1 = p.1
    split <;> rfl
  · rw [if_neg h, if_neg h]
    simp
theorem rput_len {r : Row} {v : List Nat} {g : List Int} : (rput r v g).length ≤ r.length + 1 ∧ 1 ≤ (rput r v g).length := by
  unfold rput
  by_cases h : v ∈ r.map (·.1)
  · rw [if_pos h]
    cases r with
    | nil => simp at h
    | cons => simp
  · rw [if_neg h]
    simp
theorem rput_nd {r : Row} {v : List Nat} {g : List Int} (h : (r.map (·.1)).Nodup) : ((rput r v g).map (·.1)).Nodup := by
  rw [rput_keys]
  split
  · exact h
  · rename_i hv
    rw [List.nodup_append]
    exact ⟨h, by simp, fun a ha b hb => by rw [List.mem_singleton.mp hb]; exact fun z => hv (z ▸ ha)⟩
theorem rput_sub {r : Row} {v : List Nat} {g : List Int} {us : List (List Nat)} (h : ∀ v ∈ r.map (·.1), v ∈ us) (hv : v ∈ us) : ∀ x ∈ (rput r v g).map (·.1), x ∈ us := by
  rw [rput_keys]
  intro x hx
  split at hx
  · exact h x hx
  · rcases List.mem_append.mp hx with z | z
    · exact h x z
    · rw [List.mem_singleton.mp z]; exact hv
theorem rput_gn {m : Nat} {r : Row} {v : List Nat} {g : List Int} (h : ∀ p ∈ r, Gn m p.2) (hg : Gn m g) : ∀ p ∈ rput r v g, Gn m p.2 := by
  intro p hp
  unfold rput at hp
  split at hp
  · obtain ⟨q, hq, rfl⟩ := List.mem_map.mp hp
    split
    · exact hg
    · exact h q hq
  · rcases List.mem_append.mp hp with z | z
    · exact h p z
    · rw [List.mem_singleton.mp z]; exact hg
/-- all cells but two are as they were -/
def Fr2 (n a : Nat) (s s' : List Cell) : Prop := s'.length = s.length ∧ ∀ i, i ≠ n → i ≠ a → s'[i]? = s[i]?
section
variable {n : Nat} {cs : D2.Scr} {N : Int} {store : List Cell}
theorem row_loop (m w a at_ : Nat) (u : List Nat) (sm us : List (List Nat)) (RK : List (Key × D)) (y3 y5 y7 y11 y12 : PM.Slot) {K : SOut → Prop} (hm : m ≤ 3) (hw : w < 4) (hs : sm.length ≤ 3) (hsu : ∀ v ∈ sm, v ∈ us) (hg : dget RK (.inr (tx u)) = some (.obj a)) (ha : store[a]? = some (.dc [])) (han : n < a)
    (h : Pn n cs N store) (hN : N ≤ 600000000)
    (hK : ∀ (r : Row) (y11 y12 : PM.Slot) (s : List Cell), GRow m us r → (sm ≠ [] → r ≠ []) → Pn n cs (N + 120) s → s[a]? = some (.dc (rowK r)) → Fr2 n a store s →
      At (.nx ⟨[.sh (.obj n), .sh (.int m), .sh (.int 8), y3, .sh (.int w), y5, .ow (.dc RK), y7, .sh (.int at_), .sh (nmD u), .sh (nmsD sm), y11, y12], s⟩) K) :
    At (mForL (gN 11) (mPut (mOp opIx (mV 6) (mV 9)) (mV 11) (mUn opTuple (mComp [12] (mRg1 (mV 1)) (gN 12) (mYes) (mCall 2 F__law_gain (mCons (mV 0) (mCons (mV 4) (mNil))))))) (sm.map nmD)
      ⟨[.sh (.obj n), .sh (.int m), .sh (.int 8), y3, .sh (.int w), y5, .ow (.dc RK), y7, .sh (.int at_), .sh (nmD u), .sh (nmsD sm), y11, y12], store⟩) K := by
  have kr : ∀ (T : Nat) st, T < 1000 → kRg (.sh (.int (T : Int))) st = .ok (rng 0 T) st := fun T st h => kRg_e (small_nat (by omega))
  refine at_for (fun j st => ∃ (r : Row) (y11 y12 : PM.Slot) (s : List Cell), st = ⟨[.sh (.obj n), .sh (.int m), .sh (.int 8), y3, .sh (.int w), y5, .ow (.dc RK), y7, .sh (.int at_), .sh (nmD u), .sh (nmsD sm), y11, y12], s⟩ ∧
    r.length ≤ j ∧ (1 ≤ j → r ≠ []) ∧ (r.map (·.1)).Nodup ∧ (∀ v ∈ r.map (·.1), v ∈ us) ∧ (∀ p ∈ r, Gn m p.2) ∧ Pn n cs (N + 40 * j) s ∧ s[a]? = some (.dc (rowK r)) ∧ Fr2 n a store s)
    ⟨[], y11, y12, store, rfl, by simp, by simp, by simp, by simp, by simp, by simpa using h, ha, rfl, fun _ _ _ => rfl⟩ ?_ ?_
  · rintro j _ x hx ⟨r, z11, z12, s, rfl, g1, g2, g3, g4, g5, hP, hA, hF⟩ Z h1 _
    rw [List.getElem?_map] at hx
    obtain ⟨v, hv, rfl⟩ := Option.map_eq_some_iff.mp hx
    have hj := (List.getElem?_eq_some_iff.mp hv).1
    have hvu := hsu v (List.mem_of_getElem? hv)
    simp [mV, kr m _ (by omega)]
    refine at_co _ (fun j' s' acc => ∃ gs : List Int, acc = gs.map .int ∧ gs.length = j' ∧ (∀ x ∈ gs, -1000000000000000000000000000000 ≤ x ∧ x ≤ 1000000000000000000000000000000) ∧ Pn n cs (N + 40 * j + 10 * j') s' ∧ Fr n s s') rfl (by simp) ⟨[], rfl, rfl, by simp, by simpa using hP, .refl⟩ (by rw [rng_len]; unfold lim; omega) ?_ ?_
    · rintro j' s' _ x hx ⟨gs, rfl, rfl, hb, hP', hF'⟩ Z h1 _
      have hj' := (rng_get hx).2
      obtain ⟨_, s2, b1, i, rfl, b2, b3, b4, b5⟩ := p_gain w hw hP' (by omega)
      simp [mV, b1]
      exact h1 _ _ _ (by simp) ⟨gs ++ [i], by simp, by simp, fun y hy => (List.mem_append.mp hy).elim (hb y) fun hy => by rw [List.mem_singleton.mp hy]; exact ⟨b4, b5⟩, b2.le (by push_cast; omega), hF'.trans b3⟩
    rintro s2 _ ⟨gs, rfl, lg, hb, hP', hF'⟩
    rw [rng_len] at lg hP'
    have hA2 : s2[a]? = some (.dc (rowK r)) := (hF'.2 a (by omega)).trans hA
    have ix : opIx (.dct RK) (nmD u) = some (.sh (.obj a)) := by
      rw [opIx_d]
      show (dget RK (.inr (tx u))).map RV.sh = _
      rw [hg]
      rfl
    have up := fun env => up_dc (env := env) (d := gD gs) (kd := nmD v) (k := .inr (tx v)) hA2 rfl (by unfold rowK lim; rw [List.length_map]; omega)
    rw [dput_row] at up
    have vu : ∀ st, view st (.sh (nmD u)) = some (nmD u) := fun _ => rfl
    have tp : opTuple (.lst (gs.map .int)) = some (.sh (gD gs)) := rfl
    have al : a < s2.length := (List.getElem?_eq_some_iff.mp hA2).1
    simp [-opTuple_l, -opIx_d, mV, view_lo, tp, vu, ix, up]
    refine h1 _ ⟨rput r v gs, _, _, _, rfl, by have := (rput_len (r := r) (v := v) (g := gs)).1; omega, fun _ z => by have := (rput_len (r := r) (v := v) (g := gs)).2; rw [z] at this; simp at this, rput_nd g3, rput_sub g4 hvu, rput_gn g5 ⟨by omega, hb⟩, (hP'.set han).le (by push_cast; omega), List.getElem?_set_self al, by rw [List.length_set, hF'.1, hF.1], fun i h2 h3 => ?_⟩
    rw [List.getElem?_set_ne (Ne.symm h3), hF'.2 i h2, hF.2 i h2 h3]
  · rintro _ ⟨r, z11, z12, s, rfl, g1, g2, g3, g4, g5, hP, hA, hF⟩
    rw [List.length_map] at g1 g2 hP
    exact hK r z11 z12 s ⟨by omega, g3, g4, g5⟩ (fun hne => g2 (List.length_pos_iff.mpr hne)) (hP.le (by omega)) hA hF
end
end D2
set_option Elab.async false
set_option linter.all false
set_option maxRecDepth 100000
set_option maxHeartbeats 4000000
set_option exponentiation.threshold 20000
namespace D2
open PySem PySem.Spec L2 PM Lb
open D1 (Fr Fr.refl Fr.trans fr_set pen sml_b up_dc)
theorem up_lo {f : Cell → Option (D × Cell)} {st : State} {i : Nat} {c c' : Cell} {d : D} (h : st.env[i]? = some (.ow c)) (hf : f c = some (d, c')) : upC f (.lo i) st = some (d, { st with env := st.env.set i (.ow c') }) := by
  simp only [upC, h, hf]
  rfl
theorem put_new {kvs : List (Key × D)} {kd d : D} {k : Key} (hk : asKey kd = some k) (hl : kvs.length < lim) (hn : k ∉ kvs.map (·.1)) : putC kd d (.dc kvs) = some (.non, .dc (kvs ++ [(k, d)])) := by
  simp only [putC]
  rw [if_pos hl, hk, Option.map_some, dput_new hn]
/-- a row under way: its name, its place, what it holds -/
abbrev RS : Type := List (List Nat × Nat × Row)
def rsK (R : RS) : List (Key × D) := R.map fun p => (.inr (tx p.1), .obj p.2.1)
theorem keys_tx (us : List (List Nat)) (u : List Nat) : (Sum.inr (tx u) : Key) ∈ us.map (fun u => (Sum.inr (tx u) : Key)) ↔ u ∈ us := by
  rw [List.mem_map]
  exact ⟨fun ⟨x, h, e⟩ => by rw [← tx_inj (Sum.inr.inj e)]; exact h, fun h => ⟨u, h, rfl⟩⟩
theorem rsK_keys (R : RS) : (rsK R).map (·.1) = (R.map (·.1)).map fun u => (Sum.inr (tx u) : Key) := by simp [rsK]
theorem ownK_keys (O : List (List Nat × Int)) : (ownK O).map (·.1) = (O.map (·.1)).map fun u => (Sum.inr (tx u) : Key) := by simp [ownK]
theorem dget_last {kvs : List (Key × D)} {k : Key} {d : D} (h : k ∉ kvs.map (·.1)) : dget (kvs ++ [(k, d)]) k = some d := by
  unfold dget
  rw [List.find?_append, List.find?_eq_none.mpr fun x hx z => h (List.mem_map.mpr ⟨x, hx, of_decide_eq_true z⟩)]
  simp
def IsS (y : PM.Slot) (L : List (List Nat)) : Prop := y = .sh (nmsD L) ∨ y = .ow (.ls (L.map nmD))
section
variable {n : Nat} {cs : D2.Scr} {N : Int} {store : List Cell}
/-- what is known of the store while a network is drawn -/
structure Und (n : Nat) (cs : Scr) (N : Int) (m : Nat) (us : List (List Nat)) (R : RS) (s : List Cell) : Prop where
  pn : Pn n cs N s
  at_ : ∀ p ∈ R, s[p.2.1]? = some (.dc (rowK p.2.2)) ∧ n < p.2.1
  nd : (R.map (·.2.1)).Nodup
  ok : ∀ p ∈ R, p.2.2 ≠ [] ∧ GRow m us p.2.2
theorem Und.fr {m : Nat} {us : List (List Nat)} {R : RS} {s s' : List Cell} {M : Int} (h : Und n cs N m us R s) (f : Fr n s s') (p : Pn n cs M s') : Und n cs M m us R s' := ⟨p, fun q hq => ⟨(f.2 _ (by have := (h.at_ q hq).2; omega)).trans (h.at_ q hq).1, (h.at_ q hq).2⟩, h.nd, h.ok⟩
theorem Und.more {m : Nat} {us : List (List Nat)} {R : RS} {s s' : List Cell} {M : Int} {u : List Nat} {r : Row} (h : Und n cs N m us R s) (hs : n < s.length) (hf : Fr2 n s.length (s ++ [.dc []]) s') (p : Pn n cs M s') (hr : s'[s.length]? = some (.dc (rowK r))) (ne : r ≠ []) (g : GRow m us r) : Und n cs M m us (R ++ [(u, s.length, r)]) s' := by
  have old : ∀ q ∈ R, q.2.1 < s.length := fun q hq => (List.getElem?_eq_some_iff.mp (h.at_ q hq).1).1
  refine ⟨p, fun q hq => ?_, ?_, fun q hq => ?_⟩
  · rcases List.mem_append.mp hq with z | z
    · have := old q z
      refine ⟨?_, (h.at_ q z).2⟩
      rw [hf.2 _ (by have := (h.at_ q z).2; omega) (by omega), List.getElem?_append_left this]
      exact (h.at_ q z).1
    · rw [List.mem_singleton.mp z]
      exact ⟨hr, hs⟩
  · rw [List.map_append, List.nodup_append]
    refine ⟨h.nd, by simp, fun a ha b hb e => ?_⟩
    obtain ⟨q, hq, rfl⟩ := List.mem_map.mp ha
    have := old q hq
    simp at hb
    omega
  · rcases List.mem_append.mp hq with z | z
    · exact h.ok q z
    · rw [List.mem_singleton.mp z]
      exact ⟨ne, g⟩
def bodyP : MS := (mSeq (mPar 9 10 (mOp opIx (mV 3) (mV 8)) (mSl (mCall 2 F__law_shuffled (mCons (mV 0) (mCons (mV 3) (mNil)))) (mNo) (mPt (mOp opAdd (mL (.int 1)) (mCall 2 F__law_draw (mCons (mV 0) (mCons (mOp opIx (mLst (mCons (mL (.int 3)) (mCons (mL (.int 2)) (mNil)))) (mUn opInt (mBl (mCmp opGt (mUn opLen (mV 3)) (mL (.int 5)))))) (mNil))))))))
  (mSeq (mIfS (mB (mV 7)) (mSet 10 (mOp opAdd (mLst (mCons (mOp opIx (mV 3) (mOp opMod (mOp opAdd (mV 8) (mL (.int 1))) (mUn opLen (mV 3)))) (mNil))) (mSl (mV 10) (mNo) (mPt (mCall 2 F__law_draw (mCons (mV 0) (mCons (mL (.int 2)) (mNil)))))))) (mNx))
  (mSeq (mPut (mV 5) (mV 9) (mCall 2 F__law_draw (mCons (mV 0) (mCons (mV 1) (mNil)))))
  (mSeq (mPut (mV 6) (mV 9) (mNew (mDisp [])))
  (mFor (mIt (mV 10)) (gN 11) (mPut (mOp opIx (mV 6) (mV 9)) (mV 11) (mUn opTuple (mComp [12] (mRg1 (mV 1)) (gN 12) (mYes) (mCall 2 F__law_gain (mCons (mV 0) (mCons (mV 4) (mNil))))))))))))
theorem outer (m w k : Nat) (L : List (List Nat)) (O : List (List Nat × Int)) (R : RS) (rg : Bool) (y3 y8 y9 y10 y11 y12 : PM.Slot) {Z : SOut → Prop} (hm1 : 1 ≤ m) (hm : m ≤ 3) (hw : w < 4) (hL : L.length ≤ 8) (hnd : L.Nodup) (hk : k < L.length) (h3 : IsS y3 L) (hO : O.map (·.1) = L.take k) (hR : R.map (·.1) = L.take k) (hP : Und n cs N m L R store) (hN : N ≤ 500000000)
    (hK : ∀ (o : Int) (a : Nat) (r : Row) (y9 y10 y11 y12 : PM.Slot) (s : List Cell), 0 ≤ o → o < m → Und n cs (N + 300) m L (R ++ [(L[k], a, r)]) s → store.length ≤ s.length →
      Z (.nx ⟨[.sh (.obj n), .sh (.int m), .sh (.int 8), .sh (nmsD L), .sh (.int w), .ow (.dc (ownK (O ++ [(L[k], o)]))), .ow (.dc (rsK (R ++ [(L[k], a, r)]))), .sh (.bl rg), .sh (.int k), y9, y10, y11, y12], s⟩)) :
    At (bodyP ⟨[.sh (.obj n), .sh (.int m), .sh (.int 8), y3, .sh (.int w), .ow (.dc (ownK O)), .ow (.dc (rsK R)), .sh (.bl rg), .sh (.int k), y9, y10, y11, y12], store⟩) Z := by
  have hu : L[k] ∉ L.take k := by
    intro z
    obtain ⟨i, hi, e⟩ := List.mem_iff_getElem.mp z
    rw [List.length_take] at hi
    rw [List.getElem_take] at e
    have := nodup_at hnd (List.getElem?_eq_getElem (by omega : i < L.length)) ((List.getElem?_eq_getElem hk).trans (congrArg some e.symm))
    omega
  have ix : opIx (nmsD L) (.int k) = some (.sh (nmD L[k])) := by
    have := opIx_at (ds := L.map nmD) (i := k) (by simpa using hk)
    rw [List.getElem_map] at this
    exact this
  have ln : opLen (nmsD L) = some (.sh (.int L.length)) := by
    show some _ = _
    rw [List.length_map]
  obtain ⟨_, s1, a1, es, rfl, a2, a3, a4⟩ := p_shuffled (L.map nmD) (by simp; omega) hP.pn (by omega)
  obtain ⟨E, rfl, hE⟩ := perm_nm a4
  simp only [List.length_map] at a2
  have hEl : E.length = L.length := hE.length_eq
  have hEn : E.Nodup := hE.nodup_iff.mpr hnd
  obtain ⟨c3, hc3⟩ : ∃ c3 : Bool, c3 = decide (5 < (L.length : Int)) := ⟨_, rfl⟩
  obtain ⟨q, hq, hq2⟩ : ∃ q : Nat, q = (if c3 then 2 else 3) ∧ 2 ≤ q ∧ q ≤ 3 := by cases c3 <;> exact ⟨_, rfl, by decide⟩
  obtain ⟨d1, s2, b1, b2, b3, b4⟩ := p_drawN q (by omega) (by
    have : (90 : Nat) < 2 ^ 200 := by decide
    omega) a2 (by omega)
  have o1 : opGt (.int (L.length : Int)) (.int 5) = some c3 := by rw [hc3]; rfl
  have o3 : opInt (.bl c3) = some (.sh (.int ((if c3 then 1 else 0 : Nat) : Int))) := by cases c3 <;> rfl
  have o4 : opIx (.lst [.int 3, .int 2]) (.int ((if c3 then 1 else 0 : Nat) : Int)) = some (.sh (.int (q : Int))) := by
    rw [hq]
    cases c3
    · exact opIx_at (i := 0) (by simp)
    · exact opIx_at (i := 1) (by simp)
  have o5 : opSl (nmsD E) none (some ((1 : Int) + (d1 : Int))) = some (.ow (.ls ((E.take (1 + d1)).map nmD))) := by
    have : (1 : Int) + (d1 : Int) = ((1 + d1 : Nat) : Int) := by omega
    rw [this, List.map_take, ← cut_to]
    rfl
  have hF2 := a3.trans b3
  generalize ((if c3 then 1 else 0 : Nat) : Int) = q2 at *
  have kl2 : ∀ st, kLst [.int 3, .int 2] st = .ok (.ow (.ls [.int 3, .int 2])) st := fun st => kLst_e (by decide)
  have vL : ∀ st, view st (.sh (nmsD L)) = some (nmsD L) := fun _ => rfl
  have vE : ∀ st, view st (.sh (nmsD E)) = some (nmsD E) := fun _ => rfl
  have a1' : F__law_shuffled [.obj n, nmsD L] store = .ret (.sh (nmsD E)) s1 := a1
  have hsm : ∀ v ∈ E.take (1 + d1), v ∈ L := fun v hv => hE.mem_iff.mp (List.mem_of_mem_take hv)
  have hsl : (E.take (1 + d1)).length ≤ 3 ∧ 1 ≤ (E.take (1 + d1)).length := by
    rw [List.length_take]
    omega
  have fz : (Cell.ls (L.map nmD)).frz = nmsD L := rfl
  have fz2 : D.lst (L.map nmD) = nmsD L := rfl
  unfold IsS at h3
  unfold bodyP
  rw [r_seq, at_sq]
  refine at_join (fun st => ∃ (sm : List (List Nat)) (s : List Cell), st = ⟨[.sh (.obj n), .sh (.int m), .sh (.int 8), .sh (nmsD L), .sh (.int w), .ow (.dc (ownK O)), .ow (.dc (rsK R)), .sh (.bl rg), .sh (.int k), .sh (nmD L[k]), .ow (.ls (sm.map nmD)), y11, y12], s⟩ ∧
    (∀ v ∈ sm, v ∈ L) ∧ sm.length ≤ 3 ∧ 1 ≤ sm.length ∧ Pn n cs (N + 10) s ∧ Fr n store s) ?_ ?_
  · intro Z h1
    generalize nmsD L = QL at *
    generalize nmsD E = QE at *
    rcases h3 with rfl | rfl
    · simp [-opMod_i, -kLst_2, mV, mVar, view_lo, vL, vE, ix, ln, a1', b1, kl2, o1, o3, o4, o5, fz, fz2]
      exact h1 _ ⟨E.take (1 + d1), _, by rw [List.map_take], hsm, hsl.1, hsl.2, b2.le (by push_cast; omega), hF2⟩
    · simp [-opMod_i, -kLst_2, mV, mVar, view_lo, vL, vE, ix, ln, a1', b1, kl2, o1, o3, o4, o5, fz, fz2]
      exact h1 _ ⟨E.take (1 + d1), _, by rw [List.map_take], hsm, hsl.1, hsl.2, b2.le (by push_cast; omega), hF2⟩
  rintro _ ⟨sm, s3, rfl, hsu, hs3, hs1, hP3, hF3⟩
  rw [zSq_nx, r_seq, at_sq]
  refine at_join (fun st => ∃ (sm : List (List Nat)) (y10 : PM.Slot) (s : List Cell), st = ⟨[.sh (.obj n), .sh (.int m), .sh (.int 8), .sh (nmsD L), .sh (.int w), .ow (.dc (ownK O)), .ow (.dc (rsK R)), .sh (.bl rg), .sh (.int k), .sh (nmD L[k]), .ow (.ls (sm.map nmD)), y11, y12], s⟩ ∧
    (∀ v ∈ sm, v ∈ L) ∧ sm.length ≤ 3 ∧ 1 ≤ sm.length ∧ Pn n cs (N + 20) s ∧ Fr n store s) ?_ ?_
  · intro Z h1
    cases rg with
    | false =>
      simp [mV]
      exact h1 _ ⟨sm, .un, _, rfl, hsu, hs3, hs1, hP3.le (by omega), hF3⟩
    | true =>
      obtain ⟨d2, s4, e1, e2, e3, e4⟩ := p_drawN 2 (by decide) (by decide) hP3 (by omega)
      have e1' : F__law_draw [.obj n, .int 2] s3 = .ret (.sh (.int d2)) s4 := e1
      have hlt : (k + 1) % L.length < L.length := Nat.mod_lt _ (by omega)
      have o6 : opMod (.int ((k : Int) + 1)) (.int (L.length : Int)) = some (.sh (.int (((k + 1) % L.length : Nat) : Int))) := by
        rw [opMod_i (by omega)]
        rfl
      have ix2 : opIx (nmsD L) (.int (((k + 1) % L.length : Nat) : Int)) = some (.sh (nmD L[(k + 1) % L.length])) := by
        have := opIx_at (ds := L.map nmD) (i := (k + 1) % L.length) (by simpa using hlt)
        rw [List.getElem_map] at this
        exact this
      have o7 : opSl (.lst (sm.map nmD)) none (some (d2 : Int)) = some (.ow (.ls ((sm.take d2).map nmD))) := by
        rw [List.map_take, ← cut_to]
        rfl
      have o8 : opAdd (.lst [nmD L[(k + 1) % L.length]]) (.lst ((sm.take d2).map nmD)) = some (.ow (.ls ((L[(k + 1) % L.length] :: sm.take d2).map nmD))) := by
        exact if_pos (by simp; unfold lim; omega)
      have kl1 : ∀ st, kLst [nmD L[(k + 1) % L.length]] st = .ok (.ow (.ls [nmD L[(k + 1) % L.length]])) st := fun st => kLst_e (by simp [lim])
      have hmem : ∀ v ∈ L[(k + 1) % L.length] :: sm.take d2, v ∈ L := fun v hv => by
        rcases List.mem_cons.mp hv with rfl | hv
        · exact List.getElem_mem hlt
        · exact hsu v (List.mem_of_mem_take hv)
      have hlen : (L[(k + 1) % L.length] :: sm.take d2).length ≤ 3 ∧ 1 ≤ (L[(k + 1) % L.length] :: sm.take d2).length := by
        rw [List.length_cons, List.length_take]
        omega
      generalize L[(k + 1) % L.length] :: sm.take d2 = sm2 at *
      generalize (sm.take d2).map nmD = q5 at *
      generalize nmD L[(k + 1) % L.length] = q6 at *
      generalize (((k + 1) % L.length : Nat) : Int) = q7 at *
      generalize nmsD L = QL at *
      simp [-opMod_i, -kLst_1, mV, view_lo, vL, ln, o6, ix2, kl1, e1', o7, o8]
      exact h1 _ ⟨sm2, .un, _, rfl, hmem, hlen.1, hlen.2, e2.le (by omega), hF3.trans e3⟩
  clear hsu hs3 hs1 hP3 hF3
  rintro _ ⟨sm, _, s4, rfl, hsu, hs3, hs1, hP4, hF4⟩
  obtain ⟨o, s5, g1, g2, g3, g4⟩ := p_drawN m (by omega) (by
    have : (90 : Nat) < 2 ^ 200 := by decide
    omega) hP4 (by omega)
  have hF5 := hF4.trans g3
  have hU5 := hP.fr hF5 g2
  have hn5 : n < s5.length := pn_len g2
  have nO : (Sum.inr (tx L[k]) : Key) ∉ (ownK O).map (·.1) := by
    rw [ownK_keys, keys_tx, hO]
    exact hu
  have nR : (Sum.inr (tx L[k]) : Key) ∉ (rsK R).map (·.1) := by
    rw [rsK_keys, keys_tx, hR]
    exact hu
  have lO : (ownK O).length < lim := by
    have := congrArg List.length hO
    rw [List.length_map, List.length_take] at this
    unfold ownK lim
    rw [List.length_map]
    omega
  have lR : (rsK R).length < lim := by
    have := congrArg List.length hR
    rw [List.length_map, List.length_take] at this
    unfold rsK lim
    rw [List.length_map]
    omega
  have p5 := put_new (kvs := ownK O) (kd := nmD L[k]) (d := .int o) (k := .inr (tx L[k])) rfl lO nO
  have p6 := put_new (kvs := rsK R) (kd := nmD L[k]) (d := .obj s5.length) (k := .inr (tx L[k])) rfl lR nR
  have eO : ownK O ++ [((.inr (tx L[k]) : Key), D.int o)] = ownK (O ++ [(L[k], (o : Int))]) := by simp [ownK]
  have eR : ∀ r, rsK R ++ [((.inr (tx L[k]) : Key), D.obj s5.length)] = rsK (R ++ [(L[k], s5.length, r)]) := fun r => by simp [rsK]
  have dg : dget (rsK (R ++ [(L[k], s5.length, [])])) (.inr (tx L[k])) = some (.obj s5.length) := by
    rw [← eR]
    exact dget_last nR
  rw [eO] at p5
  rw [eR []] at p6
  have fzs : (Cell.ls (sm.map nmD)).frz = nmsD sm := rfl
  have its : asIt (nmsD sm) = some (sm.map nmD) := rfl
  have rl := @row_loop n cs (N + 21) (s5 ++ [.dc []]) m w s5.length k L[k] sm L (rsK (R ++ [(L[k], s5.length, [])])) (.sh (nmsD L)) (.ow (.dc (ownK (O ++ [(L[k], (o : Int))])))) (.sh (.bl rg)) y11 y12 Z hm hw hs3 hsu dg (by simp) (by omega) (g2.app.le (by omega)) (by omega) (fun r z11 z12 s gr ne pn hs f2 => by
    rw [← eR [], eR r]
    exact hK o s5.length r _ _ _ _ s (by omega) (by omega) (hU5.more (u := L[k]) (M := N + 300) hn5 f2 (pn.le (by omega)) hs (ne (List.length_pos_iff.mp hs1)) gr) (by rw [f2.1, List.length_append, hF5.1]; simp))
  have u5 : ∀ z11 z12 s, upC (putC (nmD L[k]) (.int o)) (.lo 5) ⟨[.sh (.obj n), .sh (.int m), .sh (.int 8), .sh (nmsD L), .sh (.int w), .ow (.dc (ownK O)), .ow (.dc (rsK R)), .sh (.bl rg), .sh (.int k), .sh (nmD L[k]), .ow (.ls (sm.map nmD)), z11, z12], s⟩ = some (.non, ⟨[.sh (.obj n), .sh (.int m), .sh (.int 8), .sh (nmsD L), .sh (.int w), .ow (.dc (ownK (O ++ [(L[k], (o : Int))]))), .ow (.dc (rsK R)), .sh (.bl rg), .sh (.int k), .sh (nmD L[k]), .ow (.ls (sm.map nmD)), z11, z12], s⟩) := fun z11 z12 s => up_lo rfl p5
  have u6 : ∀ z11 z12 s, upC (putC (nmD L[k]) (.obj s5.length)) (.lo 6) ⟨[.sh (.obj n), .sh (.int m), .sh (.int 8), .sh (nmsD L), .sh (.int w), .ow (.dc (ownK (O ++ [(L[k], (o : Int))]))), .ow (.dc (rsK R)), .sh (.bl rg), .sh (.int k), .sh (nmD L[k]), .ow (.ls (sm.map nmD)), z11, z12], s⟩ = some (.non, ⟨[.sh (.obj n), .sh (.int m), .sh (.int 8), .sh (nmsD L), .sh (.int w), .ow (.dc (ownK (O ++ [(L[k], (o : Int))]))), .ow (.dc (rsK (R ++ [(L[k], s5.length, [])]))), .sh (.bl rg), .sh (.int k), .sh (nmD L[k]), .ow (.ls (sm.map nmD)), z11, z12], s⟩) := fun z11 z12 s => up_lo rfl p6
  have fzs2 : D.lst (sm.map nmD) = nmsD sm := rfl
  have kd : ∀ st, kDi [] st = .ok (.ow (.dc [])) st := fun _ => rfl
  simp [mV, g1, u5, u6, mVar, fzs, fzs2, its, kd]
  exact rl
end
end D2
set_option Elab.async false
set_option linter.all false
set_option maxRecDepth 100000
set_option maxHeartbeats 4000000
set_option exponentiation.threshold 20000
namespace D2
open PySem PySem.Spec L2 PM Lb
open D1 (Fr Fr.refl Fr.trans fr_set pen sml_b up_dc)
end D2
set_option Elab.async false
set_option linter.all false
set_option maxRecDepth 100000
set_option maxHeartbeats 4000000
namespace D2
open PySem PySem.Spec L2 PM
end D2
set_option Elab.async false
set_option linter.all false
set_option maxRecDepth 100000
set_option maxHeartbeats 4000000
set_option exponentiation.threshold 9000
/-! what the methods of Wishes answer -/
namespace Lb
open PySem PySem.Spec L2 PM
section
variable {s : List Cell} {st : State} {o a b : O} {p q : Pr} {ps qs : List Pr}
@[simp] theorem fl_kept : flO ["Wishes"] "Wishes" "kept" [("kept", .tup (ps.map pr))] = some (.sh (.tup (ps.map pr))) := flO_e (by decide) rfl
@[simp] theorem view_wi : view st (.sh (wi ps)) = some (wi ps) := rfl
/-! ends -/
def gl : O → O → O
  | none, x => x
  | some a, none => some a
  | some a, some b => some (hi a b)
def lh : O → O → O
  | none, x => x
  | some a, none => some a
  | some a, some b => some (lo a b)
def jn (p q : Pr) : Pr := (gl p.1 q.1, lh p.2 q.2)
def J (ps qs : List Pr) : List Pr := List.zipWith jn ps qs
end
/-- the k-th low is raised -/
def rs (ps : List Pr) (k : Nat) (q : Rat) : List Pr := match ps, k with
  | [], _ => []
  | p :: ps, 0 => (gl p.1 (some q), p.2) :: ps
  | p :: ps, k + 1 => p :: rs ps k q
end Lb
set_option Elab.async false
set_option linter.all false
set_option maxRecDepth 100000
set_option maxHeartbeats 4000000
set_option exponentiation.threshold 20000
namespace Nw
open PySem PySem.Spec L2 PM Lb
open D2 (NmL nmD nmsD Row gD rowK ownK rowsK Gn GRow Good)
/-! ### dicts in order -/
/-- names in order -/
def ordU (us : List (List Nat)) : List (List Nat) := (sortS (us.map tx)).map fun z => z.cps.toList
theorem ordU_perm (us : List (List Nat)) : (ordU us).Perm us := by
  have h := (sortS_perm (us.map tx)).map fun z : Str => z.cps.toList
  rw [List.map_map] at h
  have e : us.map ((fun z : Str => z.cps.toList) ∘ tx) = us := (List.map_congr_left fun z _ => rfl).trans (List.map_id _)
  rw [e] at h
  exact h
abbrev nk (u : List Nat) : Key := .inr (tx u)
/-- a dict whose keys are names -/
def tabK (us : List (List Nat)) (f : List Nat → D) : List (Key × D) := us.map fun u => (nk u, f u)
theorem tabK_get {f : List Nat → D} {u : List Nat} : ∀ {us : List (List Nat)}, u ∈ us → dget (tabK us f) (nk u) = some (f u)
  | v :: us, h => by
    unfold dget tabK
    by_cases e : v = u
    · subst e
      simp
    · have hu : u ∈ us := (List.mem_cons.mp h).resolve_left fun z => e z.symm
      have ih := tabK_get (f := f) hu
      unfold dget tabK at ih
      have ne : ¬ (nk v = nk u) := fun z => e (tx_inj (Sum.inr.inj z))
      rw [List.map_cons, List.find?_cons_of_neg (by simpa using ne)]
      exact ih
section
variable {store : List Cell}
theorem dget_none {kvs : List (Key × D)} {k : Key} (h : k ∉ kvs.map (·.1)) : dget kvs k = none := by
  unfold dget
  rw [List.find?_eq_none.mpr fun x hx z => h (List.mem_map.mpr ⟨x, hx, of_decide_eq_true z⟩)]
  rfl
theorem in_new {kvs : List (Key × D)} {u : List Nat} (h : nk u ∉ kvs.map (·.1)) : opIn (nmD u) (.dct kvs) = some false := by
  show (asKey (nmD u)).map (fun k => (dget kvs k).isSome) = some false
  show some (dget kvs (nk u)).isSome = some false
  rw [dget_none h]
  rfl
theorem find_nd {α : Type} {p : List Nat × α} : ∀ {Ns : List (List Nat × α)}, (Ns.map (·.1)).Nodup → p ∈ Ns → Ns.find? (fun q => decide (q.1 = p.1)) = some p
  | q :: Ns, hn, h => by
    have hn' := List.nodup_cons.mp (show (q.1 :: Ns.map (·.1)).Nodup from hn)
    rcases List.mem_cons.mp h with rfl | h
    · simp
    · have ne : q.1 ≠ p.1 := fun e => hn'.1 (by rw [e]; exact List.mem_map.mpr ⟨p, h, rfl⟩)
      rw [List.find?_cons_of_neg (by simpa using ne)]
      exact find_nd hn'.2 h
theorem in_tab {us : List (List Nat)} {f : List Nat → D} {u : List Nat} (h : u ∈ us) : opIn (nmD u) (.dct (tabK us f)) = some true := by
  show some (dget (tabK us f) (nk u)).isSome = some true
  rw [tabK_get h]
  rfl
end
end Nw
set_option Elab.async false
set_option linter.all false
set_option maxRecDepth 100000
set_option maxHeartbeats 4000000
set_option exponentiation.threshold 20000
namespace Nw
open PySem PySem.Spec L2 PM Lb
open D2 (NmL nmD nmsD Row gD rowK ownK rowsK Gn GRow Good)
end Nw
set_option Elab.async false
set_option linter.all false
set_option maxRecDepth 100000
set_option maxHeartbeats 4000000
set_option exponentiation.threshold 20000
namespace Nw
open PySem PySem.Spec L2 PM Lb
open D1 (Fr Fr.refl Fr.trans fr_set)
open D2 (NmL nmD nmsD Row gD rowK ownK rowsK Gn GRow Good p_shuffled F__law_shuffled)
/-! ### networks as things -/
def netF (m : Nat) (o r : List (Key × D)) : List (Str × D) := [("many", .int m), ("owners", .dct o), ("rows", .dct r), ("done", .tup []), ("waiting", .tup []), ("running", .int 0)]
def net (m : Nat) (o r : List (Key × D)) : D := .rcd "Network" (netF m o r)
def asI : D → Int
  | .int i => i
  | _ => 0
section
variable {n : Nat} {cs : D2.Scr} {N : Int} {store s : List Cell}
/-- the tables of a network that is made of these owners and rows -/
structure NetOf (m : Nat) (O : List (List Nat × Int)) (R : List (List Nat × D2.Row)) (o r : List (Key × D)) : Prop where
  ow : ∃ f, o = tabK (ordU (O.map (·.1))) f ∧ ∀ p ∈ O, f p.1 = .int p.2
  rw : ∃ f, r = tabK (ordU (O.map (·.1))) f ∧ ∀ p ∈ R, ∃ g, f p.1 = .dct (tabK (ordU (p.2.map (·.1))) g) ∧ ∀ q ∈ p.2, g q.1 = gD q.2
end
end Nw
set_option Elab.async false
set_option linter.all false
set_option maxRecDepth 100000
set_option maxHeartbeats 4000000
set_option exponentiation.threshold 20000
namespace D2
open PySem PySem.Spec L2 PM Lb
open D1 (Fr Fr.refl Fr.trans fr_set)
open Nw (nk tabK)
/-! ### rings among finite relations -/
/-! ### rings of names -/
/-- a name's row -/
def rowOf (R : List (List Nat × Row)) (u : List Nat) : Row := match R.find? fun p => decide (p.1 = u) with
  | some p => p.2
  | none => []
theorem rowOf_e {R : List (List Nat × Row)} {p : List Nat × Row} (hn : (R.map (·.1)).Nodup) (h : p ∈ R) : rowOf R p.1 = p.2 := by
  unfold rowOf
  rw [Nw.find_nd hn h]
def nxs (R : List (List Nat × Row)) (u : List Nat) : List (List Nat) := (rowOf R u).map (·.1)
/-- a road from its least name on -/
structure Rd (R : List (List Nat × Row)) (f : List Nat) (us : List (List Nat)) : Prop where
  ne : us ≠ []
  hd : us.headD [] = f
  nd : us.Nodup
  sub : ∀ u ∈ us, u ∈ R.map (·.1)
  lt : ∀ u ∈ us.tail, f < u
  ed : ∀ k, k + 1 < us.length → us.getD (k + 1) [] ∈ nxs R (us.getD k [])
end D2
set_option Elab.async false
set_option linter.all false
set_option maxRecDepth 100000
set_option maxHeartbeats 4000000
set_option exponentiation.threshold 20000
namespace D2
open PySem PySem.Spec L2 PM Lb
open D1 (Fr Fr.refl Fr.trans fr_set)
open Nw (nk tabK)
def rgD (us : List (List Nat)) : D := .tup (us.map nmD)
/-! ### sorted rings -/
/-! ### the search -/
def wt (rs : List (List (List Nat))) : Nat := (rs.map fun us => 4 ^ (9 - us.length)).sum
end D2
set_option Elab.async false
set_option linter.all false
set_option maxRecDepth 100000
set_option maxHeartbeats 4000000
set_option exponentiation.threshold 20000
namespace Nw
open PySem PySem.Spec L2 PM Lb
open D2 (NmL nmD nmsD Row gD rowK ownK rowsK Gn GRow Good rowOf rowOf_e nxs rgD)
/-! ### what the methods of a network answer -/
def gnOf (R : List (List Nat × D2.Row)) (u v : List Nat) : List Int := match (rowOf R u).find? fun q => decide (q.1 = v) with
  | some q => q.2
  | none => []
theorem gnOf_e {R : List (List Nat × D2.Row)} {p : List Nat × D2.Row} {q : List Nat × List Int} (hn : (R.map (·.1)).Nodup) (hp : p ∈ R) (hq : (p.2.map (·.1)).Nodup) (h : q ∈ p.2) : gnOf R p.1 q.1 = q.2 := by
  unfold gnOf
  rw [rowOf_e hn hp, find_nd hq h]
/-- what a test of names in a dict of names answers -/
theorem in_tab' {us : List (List Nat)} {f : List Nat → D} (v : List Nat) : opIn (nmD v) (.dct (tabK us f)) = some (decide (v ∈ us)) := by
  by_cases h : v ∈ us
  · rw [in_tab h, decide_eq_true h]
  · rw [in_new, decide_eq_false h]
    intro z
    obtain ⟨q, hq, e⟩ := List.mem_map.mp z
    obtain ⟨u, hu, rfl⟩ := List.mem_map.mp hq
    have : u = v := tx_inj (Sum.inr.inj e)
    exact h (this ▸ hu)
section
variable {m : Nat} {O : List (List Nat × Int)} {R : List (List Nat × D2.Row)} {o r : List (Key × D)} {s : List Cell}
theorem NetOf.own (h : NetOf m O R o r) (v : List Nat) : opIn (nmD v) (.dct o) = some (decide (v ∈ O.map (·.1))) := by
  obtain ⟨f, rfl, _⟩ := h.ow
  rw [in_tab']
  congr 1
  rw [decide_eq_decide]
  exact (ordU_perm _).mem_iff
theorem NetOf.row (h : NetOf m O R o r) (g : Good m O R) {u : List Nat} (hu : u ∈ R.map (·.1)) : ∃ w, opIx (.dct r) (nmD u) = some (.sh (.dct w)) ∧ (∀ v, opIn (nmD v) (.dct w) = some (decide (v ∈ nxs R u))) ∧ ∀ v ∈ nxs R u, opIx (.dct w) (nmD v) = some (.sh (gD (gnOf R u v))) := by
  have nR : (R.map (·.1)).Nodup := by rw [g.eq]; exact g.nd
  obtain ⟨p, hp, rfl⟩ := List.mem_map.mp hu
  obtain ⟨f, rfl, hf⟩ := h.rw
  obtain ⟨w, e1, e2⟩ := hf p hp
  have en : nxs R p.1 = p.2.map (·.1) := by unfold nxs; rw [rowOf_e nR hp]
  refine ⟨tabK (ordU (p.2.map (·.1))) w, ?_, fun v => ?_, fun v hv => ?_⟩
  rotate_left
  · rw [in_tab', en]
    congr 1
    rw [decide_eq_decide]
    exact (ordU_perm _).mem_iff
  · rw [en] at hv
    obtain ⟨q, hq, rfl⟩ := List.mem_map.mp hv
    rw [opIx_d]
    show (dget _ (nk q.1)).map RV.sh = _
    rw [tabK_get ((ordU_perm _).mem_iff.mpr hv), e2 q hq, gnOf_e nR hp (g.rw p hp).2.nd hq]
    rfl
  · rw [opIx_d]
    show (dget _ (nk p.1)).map RV.sh = _
    rw [tabK_get ((ordU_perm _).mem_iff.mpr (by rw [← g.eq]; exact hu)), e1]
    rfl
theorem lk_rows : flO ["Network"] "Network" "rows" (netF m o r) = some (.sh (.dct r)) := flO_e (by decide) rfl
def isSt : D → Bool
  | .str _ => true
  | _ => false
theorem rng_e (n : Nat) : rng 0 n = (List.range n).map fun (k : Nat) => D.int (k : Int) := by
  unfold rng
  exact List.map_congr_left fun (k : Nat) _ => by rw [Int.zero_add]
theorem kRg_n (T : Nat) (st : State) (h : T < 1000) : kRg (.sh (.int (T : Int))) st = .ok ((List.range T).map fun (k : Nat) => D.int (k : Int)) st := by
  rw [← rng_e]
  exact kRg_e (small_nat (by omega))
end
end Nw
set_option Elab.async false
set_option linter.all false
set_option maxRecDepth 100000
set_option maxHeartbeats 4000000
set_option exponentiation.threshold 20000
namespace Nw
open PySem PySem.Spec L2 PM Lb
open D2 (NmL nmD nmsD Row gD rowK ownK rowsK Gn GRow Good rowOf rowOf_e nxs rgD)
/-! ### the sums of a ring -/
end Nw
set_option Elab.async false
set_option linter.all false
set_option maxRecDepth 100000
set_option maxHeartbeats 4000000
set_option exponentiation.threshold 20000
namespace Nw
open PySem PySem.Spec L2 PM Lb
open D2 (NmL nmD nmsD Row gD rowK ownK rowsK Gn GRow Good rowOf rowOf_e nxs rgD)
end Nw
set_option Elab.async false
set_option linter.all false
set_option maxRecDepth 100000
set_option maxHeartbeats 4000000
set_option exponentiation.threshold 20000
namespace D2
open PySem PySem.Spec L2 PM Lb
open D1 (Fr Fr.refl Fr.trans fr_set)
/-- any value of the laws -/
structure Val (d : D) : Prop where
  dat : dat d = true
  wt : Lb.wt d ≤ 300000
  dep : dep d ≤ 10
  sh : ∀ ds, d = .tup ds → ds.length < 1000
theorem Val.rep {d : D} (h : Val d) : opRepr d = some (.sh (.str (shw d))) := rep_dat h.dat (by have := h.dep; omega) (by have := h.wt; unfold lim; omega)
variable {n : Nat} {cs : D2.Scr} {N : Int} {store : List Cell}
/-! ### texts joined -/
end D2
set_option Elab.async false
set_option linter.all false
set_option maxRecDepth 100000
set_option maxHeartbeats 3200000
namespace PM
open PySem PySem.Spec PyProof.Rows L2
/-! ### a set of texts, whose table rises: it can be walked -/
def tOf (e : Int × Value) : Str := strOf e.2
def GoodT (P : Program) (w : World) (e : Int × Value) : Prop := ∃ z tk, e.2 = Value.str z tk ∧ e.1 = (PySem.strKind P w).hash z
/-- at a a set; zs tells its members -/
def SetT (P : Program) (w : World) (h : Heap) (a : Addr) (zs : List Str) : Prop :=
  ∃ o es ep t, h.get? a = some o ∧ o.ExactSet ∧ o.data = .set es ep t ∧ (∀ e ∈ es.toList, GoodT P w e) ∧ (es.toList.map tOf).Nodup ∧ (∀ z, z ∈ zs ↔ z ∈ es.toList.map tOf) ∧ es.size ≤ zs.length ∧
    es.size < scanBound ∧ t.fits es.size = true ∧ Ris t.place.toList ∧ (w.params.followText "set-order" = true ∨ t.led = true)
section
variable {P : Program} {w : World} {h h' : Heap} {a : Addr} {zs : List Str}
theorem SetT.at (R : SetT P w h a zs) (k : ∀ o, h.get? a = some o → h'.get? a = some o) : SetT P w h' a zs :=
  let ⟨o, es, ep, t, ho, r⟩ := R
  ⟨o, es, ep, t, k o ho, r⟩
end
end PM
set_option Elab.async false
set_option linter.all false
set_option maxRecDepth 100000
set_option maxHeartbeats 3200000
namespace PM
open PySem PySem.Spec PyProof.Rows L2
/-! ### sorted(set(xs)), xs a list of texts -/
end PM
set_option Elab.async false
set_option linter.all false
set_option maxRecDepth 100000
set_option maxHeartbeats 1200000
namespace PM
open PySem PySem.Spec L2
/-! ### xs.reverse() -/
def fRev (ds : List D) : List D → Option (D × List D)
  | [] => some (.non, ds.reverse)
  | _ => none
/-! ### a, b = x, y where a tuple is built: what is new stays the frame's own -/
end PM
set_option Elab.async false
set_option linter.all false
set_option maxRecDepth 100000
set_option maxHeartbeats 1200000
namespace PM
open PySem PySem.Spec L2
/-! ### return x: the frame's own thing goes to the caller -/
section
variable {K : PySem.W.Frag} {E : Ent} {σ : L2.St} {H : Hp} {st : State} {φ : List Addr} {I : Hp}
theorem un_get {env : List Slot} {i j : Nat} {s : Slot} (h : (env.set i .un)[j]? = some s) (hs : s ≠ .un) : j ≠ i ∧ env[j]? = some s := by
  by_cases e : j = i
  · subst e
    rw [List.getElem?_set] at h
    simp only [if_true] at h
    split at h
    · cases h
      exact absurd rfl hs
    · cases h
  · rw [List.getElem?_set_ne (Ne.symm e)] at h
    exact ⟨e, h⟩
theorem Rp.drop (R : Rp K E σ H st φ I) (i : Nat) : Rp K E σ H { st with env := st.env.set i .un } φ I :=
  ⟨R.ext, R.keep, R.there, R.inew, R.iold, R.pre, R.fl, R.pnew, R.nd, R.len, R.cells, R.pin, by rw [List.length_set]; exact R.elen, fun j d h => R.sh j d (un_get h (by simp)).2, fun j c h => R.ow j c (un_get h (by simp)).2, fun j k a ⟨c, h1, h2⟩ ⟨c', h3, h4⟩ => R.one j k a ⟨c, (un_get h1 (by simp)).2, h2⟩ ⟨c', (un_get h3 (by simp)).2, h4⟩⟩
end
end PM
set_option Elab.async false
set_option linter.all false
set_option maxRecDepth 100000
set_option maxHeartbeats 1200000
namespace PM
open PySem PySem.Spec L2
/-! ### {k: v for x in xs if t} over known things, whose rounds leave the state -/
end PM
set_option Elab.async false
set_option linter.all false
set_option maxRecDepth 100000
set_option maxHeartbeats 1200000
namespace PM
open PySem PySem.Spec L2
/-! ### reckoning runs in fewer words -/
def uns : Nat → List Slot
  | 0 => []
  | n + 1 => .un :: uns n
theorem uns_0 : uns 0 = [] := rfl
theorem uns_s {n : Nat} : uns (n + 1) = .un :: uns n := rfl
theorem uns_e : ∀ n : Nat, List.replicate n Slot.un = uns n
  | 0 => rfl
  | n + 1 => by rw [List.replicate_succ, uns_e n]; rfl
section
variable {a b c d e : D} {n : Nat}
theorem entry0 : entry [] n = uns n := uns_e n
theorem entry1 : entry [a] n = .sh a :: uns n := congrArg (fun z => Slot.sh a :: z) (uns_e n)
theorem entry2 : entry [a, b] n = .sh a :: .sh b :: uns n := congrArg (fun z => Slot.sh a :: .sh b :: z) (uns_e n)
theorem entry3 : entry [a, b, c] n = .sh a :: .sh b :: .sh c :: uns n := congrArg (fun z => Slot.sh a :: .sh b :: .sh c :: z) (uns_e n)
theorem entry4 : entry [a, b, c, d] n = .sh a :: .sh b :: .sh c :: .sh d :: uns n := congrArg (fun z => Slot.sh a :: .sh b :: .sh c :: .sh d :: z) (uns_e n)
theorem entry5 : entry [a, b, c, d, e] n = .sh a :: .sh b :: .sh c :: .sh d :: .sh e :: uns n := congrArg (fun z => Slot.sh a :: .sh b :: .sh c :: .sh d :: .sh e :: z) (uns_e n)
end
/-! dict comprehensions -/
def kDeO4 (x y : D) (st : State) : Out (Option (Key × D)) := match asKey x with
  | some k => .ok (some (k, y)) st
  | none => .stuck
def kDeO3 (x : D) (r : RV) (st : State) : Out (Option (Key × D)) := (RV.frz r st).bd (kDeO4 x)
def kDeO2 (ev : M RV) (x : D) (st : State) : Out (Option (Key × D)) := (ev st).bd (kDeO3 x)
def kDeO1 (ev : M RV) (r : RV) (st : State) : Out (Option (Key × D)) := (RV.frz r st).bd (kDeO2 ev)
def kDeO (ek ev : M RV) (k : Bool) (st : State) : Out (Option (Key × D)) := if k then (ek st).bd (kDeO1 ev) else .ok none st
def kDsO (t : M Bool) (ek ev : M RV) (o : Option State) : Out (Option (Key × D)) := match o with
  | some st1 => (t st1).bd (kDeO ek ev)
  | none => .stuck
section
variable {st : State} {own : List Nat} {g : D → State → Option State} {t : M Bool} {e ek ev : M RV} {env : List Slot} {store : List Cell} {K : Out RV → Prop} {x y : D} {r : RV}
@[simp] theorem kDeO4_s {z : Str} : kDeO4 (.str z) y st = .ok (some (.inr z, y)) st := rfl
@[simp] theorem kDeO4_i {z : Int} : kDeO4 (.int z) y st = .ok (some (.inl z, y)) st := rfl
@[simp] theorem kDeO3_e : kDeO3 x r st = (RV.frz r st).bd (kDeO4 x) := rfl
@[simp] theorem kDeO2_e : kDeO2 ev x st = (ev st).bd (kDeO3 x) := rfl
@[simp] theorem kDeO1_e : kDeO1 ev r st = (RV.frz r st).bd (kDeO2 ev) := rfl
@[simp] theorem kDeO_t : kDeO ek ev true st = (ek st).bd (kDeO1 ev) := rfl
@[simp] theorem kDeO_f : kDeO ek ev false st = .ok none st := rfl
@[simp] theorem kDsO_s : kDsO t ek ev (some st) = (t st).bd (kDeO ek ev) := rfl
end
/-! mutations, as they are reckoned -/
section
variable {st : State} {f : List D → List D → Option (D × List D)} {h : Cell → Option (D × Cell)} {i n : Nat} {ds es ds' : List D} {d k : D} {c c' : Cell} {kvs : List (Key × D)} {C f' : Str} {fs : List (Str × D)} {Cs : List Str}
def muR (i : Nat) (st : State) : Option (D × List D) → Out RV
  | some p => .ok (.sh p.1) { st with env := st.env.set i (.ow (.ls p.2)) }
  | none => .stuck
def muL (f : List D → List D → Option (D × List D)) (i : Nat) (es : List D) (st : State) : Option Slot → Out RV
  | some (.ow (.ls ds)) => muR i st (f ds es)
  | _ => .stuck
@[simp] theorem muR_e : muR i st (some (d, ds')) = .ok (.sh d) { st with env := st.env.set i (.ow (.ls ds')) } := rfl
@[simp] theorem muL_e : muL f i es st (some (.ow (.ls ds))) = muR i st (f ds es) := rfl
@[simp] theorem mu_loE : kMu3 f (.lo i) es st = muL f i es st st.env[i]? := by
  cases e : st.env[i]? with
  | none => simp only [kMu3, upC, e]; rfl
  | some s => cases s with
    | un => simp only [kMu3, upC, e]; rfl
    | sh d => simp only [kMu3, upC, e]; rfl
    | ow c => cases c with
      | ls ds => cases q : f ds es <;> (simp only [kMu3, upC, e, lsC, q, muL, muR]; rfl)
      | dead => simp only [kMu3, upC, e, lsC]; rfl
      | dc _ => simp only [kMu3, upC, e, lsC]; rfl
      | dt _ => simp only [kMu3, upC, e, lsC]; rfl
      | ins _ _ => simp only [kMu3, upC, e, lsC]; rfl
      | tab _ _ => simp only [kMu3, upC, e, lsC]; rfl
def muR2 (n : Nat) (st : State) : Option (D × List D) → Out RV
  | some p => .ok (.sh p.1) { st with store := st.store.set n (.ls p.2) }
  | none => .stuck
def muS (f : List D → List D → Option (D × List D)) (n : Nat) (es : List D) (st : State) : Option Cell → Out RV
  | some (.ls ds) => muR2 n st (f ds es)
  | _ => .stuck
@[simp] theorem muR2_e : muR2 n st (some (d, ds')) = .ok (.sh d) { st with store := st.store.set n (.ls ds') } := rfl
@[simp] theorem muS_e : muS f n es st (some (.ls ds)) = muR2 n st (f ds es) := rfl
@[simp] theorem mu_obE : kMu3 f (.sh (.obj n)) es st = muS f n es st st.store[n]? := by
  cases e : st.store[n]? with
  | none => simp only [kMu3, upC, e]; rfl
  | some c => cases c with
    | ls ds => cases q : f ds es <;> (simp only [kMu3, upC, e, lsC, q, muS, muR2]; rfl)
    | dead => simp only [kMu3, upC, e, lsC]; rfl
    | dc _ => simp only [kMu3, upC, e, lsC]; rfl
    | dt _ => simp only [kMu3, upC, e, lsC]; rfl
    | ins _ _ => simp only [kMu3, upC, e, lsC]; rfl
    | tab _ _ => simp only [kMu3, upC, e, lsC]; rfl
@[simp] theorem fPop_l : fPop (ds ++ [d]) [] = some (d, ds) := by
  show ((ds ++ [d]).getLast?).map _ = _
  simp
@[simp] theorem fRev_e : fRev ds [] = some (.non, ds.reverse) := rfl
def upL2 (i : Nat) (st : State) : Option (D × Cell) → Option (D × State)
  | some p => some (p.1, { st with env := st.env.set i (.ow p.2) })
  | none => none
def upL (h : Cell → Option (D × Cell)) (i : Nat) (st : State) : Option Slot → Option (D × State)
  | some (.ow c) => upL2 i st (h c)
  | _ => none
@[simp] theorem upL2_e : upL2 i st (some (d, c)) = some (d, { st with env := st.env.set i (.ow c) }) := rfl
@[simp] theorem upL_e : upL h i st (some (.ow c)) = upL2 i st (h c) := rfl
@[simp] theorem up_loE : upC h (.lo i) st = upL h i st st.env[i]? := by
  cases e : st.env[i]? with
  | none => simp only [upC, e]; rfl
  | some s => cases s with
    | un => simp only [upC, e]; rfl
    | sh d => simp only [upC, e]; rfl
    | ow c => cases q : h c <;> (simp only [upC, e, q, upL, upL2]; rfl)
def upS2 (n : Nat) (st : State) : Option (D × Cell) → Option (D × State)
  | some p => some (p.1, { st with store := st.store.set n p.2 })
  | none => none
def upS (h : Cell → Option (D × Cell)) (n : Nat) (st : State) : Option Cell → Option (D × State)
  | some c => upS2 n st (h c)
  | none => none
@[simp] theorem upS2_e : upS2 n st (some (d, c)) = some (d, { st with store := st.store.set n c }) := rfl
@[simp] theorem upS_e : upS h n st (some c) = upS2 n st (h c) := rfl
@[simp] theorem up_obE : upC h (.sh (.obj n)) st = upS h n st st.store[n]? := by
  cases e : st.store[n]? with
  | none => simp only [upC, e]; rfl
  | some c => cases q : h c <;> (simp only [upC, e, q, upS, upS2]; rfl)
@[simp] theorem gT_2 {r : List D → State → Option State} {a b : D} : gT 2 r (.tup [a, b]) st = r [a, b] st := rfl
@[simp] theorem gT_3 {r : List D → State → Option State} {a b c : D} : gT 3 r (.tup [a, b, c]) st = r [a, b, c] st := rfl
@[simp] theorem gT_4 {r : List D → State → Option State} {a b c e : D} : gT 4 r (.tup [a, b, c, e]) st = r [a, b, c, e] st := rfl
@[simp] theorem gTL_2 {r : List D → State → Option State} {a b : D} : gTL 2 r (.lst [a, b]) st = r [a, b] st := rfl
@[simp] theorem gTL_3 {r : List D → State → Option State} {a b c : D} : gTL 3 r (.lst [a, b, c]) st = r [a, b, c] st := rfl
end
end PM
set_option Elab.async false
set_option linter.all false
set_option maxRecDepth 100000
set_option maxHeartbeats 4000000
set_option exponentiation.threshold 20000
local macro_rules
  | `(tactic| simp_arith [$ts,*] $[$l:location]?) => `(tactic| simp only [
    PM.kDeO4_s, PM.kDeO4_i, PM.kDeO3_e, PM.kDeO2_e, PM.kDeO1_e, PM.kDeO_t, PM.kDeO_f, PM.kDsO_s, PM.muR_e, PM.muL_e, PM.mu_loE, PM.muR2_e, PM.muS_e, PM.mu_obE, PM.fPop_l, PM.fRev_e, PM.upL2_e, PM.upL_e, 
    PM.up_loE, PM.upS2_e, PM.upS_e, PM.up_obE, PM.gT_2, PM.gT_3, PM.gT_4, PM.gTL_2, PM.gTL_3, PM.mV, PM.mVar, PM.view_lo, PM.runF, PM.entry0, PM.entry1, PM.entry2, PM.entry3, PM.entry4, PM.entry5, 
    PM.uns_0, PM.uns_s, PM.mRetV, PM.mRetN, PM.opEq_tn, PM.opEq_nn, PM.opEq_d0, PM.opNe_d0, PM.bd_ok, PM.bd_exc, PM.bd_stuck, PM.th_ok, PM.th_exc, PM.th_stuck, PM.sq_nx, PM.sq_rt, PM.sq_exc, PM.sq_bk, 
    PM.sq_ct, PM.sq_stuck, PM.lp_nx, PM.lp_ct, PM.lp_bk, PM.lp_rt, PM.lp_exc, PM.lp_stuck, PM.opt_some, PM.opt_none, PM.on1_e, PM.on2_e, PM.r_ofO, PM.r_at2, PM.r_at1, PM.r_pure, PM.r_mstuck, PM.r_mL, 
    PM.r_nx, PM.r_brk, PM.r_cnt, PM.r_stk, PM.r_seq, PM.r_nil, PM.r_yes, PM.r_no, PM.bor_sh, PM.bor_lo, PM.bor_ow, PM.frz_sh, PM.frz_ow, PM.frz_lo, PM.cfrz_ls, PM.cfrz_dc, PM.slot_sh, PM.slot_ow, 
    PM.isLo_sh, PM.isLo_ow, PM.fix_sh, PM.fix_ow, PM.fix_lo, PM.kOp2_e, PM.kOp_e, PM.r_op, PM.r_cmp, PM.kUn_e, PM.r_un, PM.r_Fm, PM.kBl_e, PM.r_bl, PM.kAnd_t, PM.kAnd_f, PM.kOr_t, PM.kOr_f, PM.kNot_e, 
    PM.kIf_t, PM.kIf_f, PM.kIfS_t, PM.kIfS_f, PM.r_and, PM.r_or, PM.r_not, PM.r_if, PM.r_ifs, PM.toB_bl, PM.r_B, PM.kC3_e, PM.kC2_e, PM.kC1_e, PM.r_cons, PM.kTup_0, PM.kTup_1, PM.kTup_2, PM.kTup_3, 
    PM.kTup_4, PM.kLst_0, PM.r_tup, PM.r_lst, PM.kSet2_e, PM.kSet_e, PM.r_set, PM.kRet2_e, PM.kRet_e, PM.r_ret, PM.kDrop_e, PM.r_drop, PM.kP4_e, PM.kP3_e, PM.kP2_e, PM.kP1_e, PM.r_par, PM.kG2_s, PM.kG2_n, 
    PM.kG1_e, PM.kG_e, PM.r_asg, PM.r_gN, PM.r_gnil, PM.r_gcons, PM.r_while, PM.kW_t, PM.kW_f, PM.kF_e, PM.r_for, PM.kFb_s, PM.kFb_n, PM.kM3_e, PM.kM2_e, PM.kM_e, PM.isSt_e, PM.isLst_e, PM.r_mS1, PM.r_mL1, 
    PM.asIt_t, PM.asIt_l, PM.kIt2_e, PM.kIt_e, PM.r_it, PM.kCall_0, PM.kCall_1, PM.kCall_2, PM.kCall_3, PM.kCall_4, PM.r_call, PM.ofF_sh, PM.ofF_ow, PM.ofF_exc, PM.toF_sh, PM.toF_ow, PM.toF_nx, PM.toF_exc, 
    PM.view_non, PM.view_bl, PM.view_int, PM.view_str, PM.view_tup, PM.view_lst, PM.view_lsF, PM.view_tpF, PM.view_dct, PM.view_rcd, PM.view_val, PM.atI_0, PM.atI_1, PM.atI_2, PM.opAdd_i, PM.opSub_i, 
    PM.opNeg_i, PM.opAbs_i, PM.opLt_i, PM.opLe_i, PM.opGt_i, PM.opGe_i, PM.kCo2_e, PM.r_comp, PM.wipe_e, PM.wipeE_n, PM.wipeE_1, PM.kU_s, PM.kU_n, PM.kU4_e, PM.kU3_e, PM.kU2_e, PM.kU1_e, PM.kU0_e, 
    PM.r_put, PM.kPt_e, PM.r_pt, PM.kS2_e, PM.kS1_e, PM.kS0_e, PM.r_sl, PM.r_js0, PM.r_js, PM.kJo_e, PM.r_join, PM.kNew_e, PM.r_new, PM.kD3_e, PM.kD2_e, PM.kD1'_e, PM.kD1_e, PM.kD0_e, PM.r_pr0, PM.r_pr, 
    PM.r_disp, PM.eq_str', PM.ne_str', PM.kB1_e, PM.kB2_e, PM.r_raise, PM.kRz_0, PM.kRz_1, PM.kRz_2, PM.kTry_nx, PM.kTry_rt, PM.kTry_bk, PM.kTry_ct, PM.kTry_exc, PM.r_try, PM.r_runH0, PM.r_runH, 
    PM.r_runS0, PM.r_runS1, PM.toD_0, PM.toD_1, PM.unS_nx, PM.unS_bk, PM.unS_ct, PM.unS_sh, PM.unS_ow, PM.noS_nx, PM.noS_rt, PM.noS_bk, PM.noS_ct, PM.r_isi, PM.r_isiX, PM.lkB_s, PM.isXG_0t, PM.isXG_0c, 
    PM.isXG_1t, PM.isXG_1c, PM.isG_rt, PM.isG_rc, PM.r_fld, PM.flG_r, PM.r_fldX, PM.fxG_e, PM.kSf2_e, PM.kSf_e, PM.kSf0_e, PM.r_setF, PM.kMk2_n, PM.kMk2_x, PM.r_make, PM.r_makeL, PM.r_fz, PM.r_bin, 
    PM.r_cmp2, PM.r_in2, PM.r_tru, PM.okB_e, PM.trG_b, PM.kN_0, PM.kN_1, PM.kN_2, PM.kN_3, PM.r_callN, PM.r_meth, PM.r_prop, PM.nXo_ok, PM.r_cm, PM.kCall_5, PM.kCall_6, PM.kSt3_e, PM.kSt2_e, PM.kSt1_e, 
    PM.kSt0_e, PM.r_star, PM.kZp2_e, PM.kZp1_e, PM.kZp0_e, PM.kZp_e, PM.r_zip, PM.r_boolC, PM.r_ch, PM.kCh2_e, PM.kCh1_t, PM.kCh1_f, PM.chG_e, PM.kCk_e, PM.r_callK, PM.kQ6_e, PM.kQ5_e, PM.kQ4_e, PM.kQ3_e, 
    PM.kQ2_e, PM.kQ1_e, PM.r_par3, PM.r_rg1, PM.bd_frz, PM.is2_nn, PM.is2_tn, PM.is2_in, PM.is2_sn, PM.is2_bb, PM.isn2_nn, PM.isn2_tn, PM.isn2_in, PM.isn2_bb, PM.isi_tt, PM.isi_lt, PM.isi_ii, PM.isi_ib, 
    PM.kMu2_e, PM.kMu_e, PM.isLs_e, PM.r_mut, PM.isi_l2, PM.isi_t2, PM.isXG_r, PM.bd_okB, PM.at_sq, PM.at_bd, PM.at_th, PM.at_tf, PM.at_of, PM.at_lp, PM.at_try, PM.at_unS, PM.at_noS, PM.at_mk, PM.at_nX, 
    PM.zSq_nx, PM.zSq_rt, PM.zSq_bk, PM.zSq_ct, PM.zSq_exc, PM.zBd_ok, PM.zBd_exc, PM.zTh_ok, PM.zTh_exc, PM.zTf_nx, PM.zTf_sh, PM.zTf_ow, PM.zTf_exc, PM.zOf_sh, PM.zOf_ow, PM.zOf_exc, PM.zLp_nx, 
    PM.zLp_ct, PM.zLp_bk, PM.zLp_rt, PM.zLp_exc, PM.zTry_nx, PM.zTry_rt, PM.zTry_bk, PM.zTry_ct, PM.zTry_exc, PM.zUn_nx, PM.zUn_bk, PM.zUn_ct, PM.zUn_sh, PM.zUn_ow, PM.zNo_nx, PM.zNo_rt, PM.zNo_bk, 
    PM.zNo_ct, PM.zMk_n, PM.zMk_x, PM.zNx_ok, PM.kFs_e, PM.kFo_s, PM.kWs_t, PM.kWs_f, PM.kCe2_e, PM.kCe1_e, PM.kCe_t, PM.kCe_f, PM.kCs_s, PM.kSl_e, PM.r_seal', PM.kItI2_e, PM.kItI_e, PM.r_itI, PM.kDs4_e, 
    PM.kDs3_e, PM.kDs2_e, PM.kDs0_e, PM.kDs5_s, PM.kDs5_i, PM.r_dstar, PM.kDe4_s, PM.kDe4_i, PM.kDe3_e, PM.kDe2_e, PM.kDe1_e, PM.kDe_t, PM.kDs_s, PM.r_dcomp, PM.kSe2_s, PM.kSe2_i, PM.kSe1_e, PM.kSe_t, 
    PM.kSs_s, PM.r_slen, beq_self_eq_true, if_true, if_false, reduceIte, Int.reduceEq, Int.reduceLT, Int.reduceLE, Int.reduceAdd, Int.reduceSub, Int.reduceNeg, Bool.not_true, Bool.not_false, 
    Option.map_some, Option.map_none, Option.bind_some, Option.bind_none, List.getElem?_cons_zero, List.getElem?_cons_succ, List.set_cons_zero, List.set_cons_succ, Bool.and_true, Bool.and_false, 
    Bool.true_and, Bool.false_and, Bool.or_true, Bool.or_false, Bool.true_or, Bool.false_or, decide_true, decide_false, Bool.false_eq_true, List.isEmpty_cons, List.isEmpty_nil, $ts,*] $[$l:location]?)
namespace D1
open PySem PySem.Spec L2 PM Lb
/-! ### draws of the first family, with what stands ahead of the pen -/
section
variable {n : Nat} {cs : D2.Scr} {N : Int} {store s : List Cell}
theorem q_drawI (many : Int) (h0 : 0 < many) (hb : many ≤ 10000000000000000000000000000000000000000) (h : D2.Pn n cs N store) (hN : N ≤ 900000000) :
    ∃ (r : Int) (store' : List Cell), F__law_draw 8 [.obj n, .int many] store = .ret (.sh (.int r)) store' ∧ D2.Pn n cs (N + 8) store' ∧ Fr n store store' ∧ 0 ≤ r ∧ r < many := by
  obtain ⟨⟨hc, u, l, hs, hu, hu2, hl⟩, hG⟩ := h
  have h : D2.Pn n cs N store := ⟨⟨hc, u, l, hs, hu, hu2, hl⟩, hG⟩
  have hlg : many.natAbs < 2 ^ 8000 := by
    have e : many.natAbs < 2 ^ 200 := by
      have e : (2 : Nat) ^ 200 = 1606938044258990275541962092341162602522202993782792835301376 := by decide +kernel
      omega
    exact Nat.lt_of_lt_of_le e (Nat.pow_le_pow_right (by decide) (by decide))
  obtain ⟨r, u', l', h1, h2, h3, h4, h5, h6⟩ := s_draw 7 many n h0 (by rw [drawB7]; omega) hlg store cs.cs u l hs hc hu (by omega) hl
  have hn : n < store.length := (List.getElem?_eq_some_iff.mp hs).1
  exact ⟨r, _, h1, h.fr fr_set ⟨hc, u', l', List.getElem?_set_self hn, by omega, by omega, h6⟩, fr_set, h2, h3⟩
theorem q_draw (many : Nat) (h0 : 0 < many) (hb : (many : Int) ≤ 10000000000000000000000000000000000000000) (h : D2.Pn n cs N store) (hN : N ≤ 900000000) :
    ∃ (r : Nat) (store' : List Cell), F__law_draw 8 [.obj n, .int many] store = .ret (.sh (.int r)) store' ∧ D2.Pn n cs (N + 8) store' ∧ Fr n store store' ∧ r < many := by
  obtain ⟨r, s', h1, h2, h3, h4, h5⟩ := q_drawI many (by omega) hb h hN
  obtain ⟨i, rfl⟩ := Int.eq_ofNat_of_zero_le h4
  exact ⟨i, s', h1, h2, h3, by omega⟩
theorem q_pick (ds : List D) (h0 : ds ≠ []) (hb : ds.length ≤ 1000000) (h : D2.Pn n cs N store) (hN : N ≤ 900000000) :
    ∃ (d : D) (store' : List Cell), F__law_pick [.obj n, .lst ds] store = .ret (.sh d) store' ∧ D2.Pn n cs (N + 8) store' ∧ Fr n store store' ∧ d ∈ ds := by
  obtain ⟨i, s', h1, h2, h3, h4⟩ := q_draw ds.length (List.length_pos_iff.mpr h0) (by omega) h hN
  have ix : opIx (.lst ds) (.int (i : Int)) = some (.sh ds[i]) := by
    rw [opIx_l, atI_nat (j := i) (v := ds[i]) (List.getElem?_eq_getElem h4)]
    rfl
  have lc : opLen (.lst ds) = some (.sh (.int ((ds.length : Nat) : Int))) := rfl
  refine ⟨ds[i], s', ?_, h2, h3, List.getElem_mem h4⟩
  refine at_eq fun Z hZ => ?_
  simp_arith [F__law_pick, m__law_pick, lc, h1, ix]
  exact hZ
theorem q_integer (b : Int) (h0 : 0 ≤ b) (hb : b ≤ 1000000000000000000000000000000000000) (h : D2.Pn n cs N store) (hN : N ≤ 900000000) :
    ∃ (r : Int) (store' : List Cell), F__law_integer [.obj n, .int b] store = .ret (.sh (.int r)) store' ∧ D2.Pn n cs (N + 8) store' ∧ Fr n store store' ∧ -b ≤ r ∧ r ≤ b := by
  obtain ⟨r, s', h1, h2, hf, h3, h4⟩ := q_drawI (2 * b + 1) (by omega) (by omega) h hN
  have m1 : opMul (.int 2) (.int b) = some (.sh (.int (2 * b))) := opMul_i (by decide) (sml_b (by omega) (by omega))
  refine ⟨r - b, s', ?_, h2, hf, by omega, by omega⟩
  refine at_eq fun Z hZ => ?_
  simp_arith [F__law_integer, m__law_integer, m1, h1]
  exact hZ
end
end D1
namespace D1
open PySem PySem.Spec L2 PM Lb
section
variable {n : Nat} {cs : D2.Scr} {N : Int} {store s : List Cell}
theorem q_fraction (h : D2.Pn n cs N store) (hN : N ≤ 800000000) : ∃ (q : Rat) (store' : List Cell), F__law_fraction [.obj n] store = .ret (.sh (fr q)) store' ∧ D2.Pn n cs (N + 32) store' ∧ Fr n store store' ∧ Bd 120 q := by
  have pw : opPow (.int 10) (.int 30) = some (.sh (.int 1000000000000000000000000000000)) := rfl
  obtain ⟨d1, st1, a1, a2, af, a3⟩ := q_pick [.int 3, .int 12, .int 1000, .int 1000000000000000000000000000000] (by simp) (by simp) h (by omega)
  obtain ⟨b, rfl, hb0, hb1⟩ : ∃ b : Int, d1 = .int b ∧ 1 ≤ b ∧ b ≤ 1000000000000000000000000000000 := by
    simp only [List.mem_cons, List.not_mem_nil, or_false] at a3
    rcases a3 with rfl | rfl | rfl | rfl <;> exact ⟨_, rfl, by omega, by omega⟩
  obtain ⟨i, st2, b1, b2, bf, b3, b4⟩ := q_integer b (by omega) (by omega) a2 (by omega)
  obtain ⟨d2, st3, c1, c2, cf, c3⟩ := q_pick [.int 1, .int 6, .int b] (by simp) (by simp) b2 (by omega)
  obtain ⟨m, rfl, hm0, hm1⟩ : ∃ m : Int, d2 = .int m ∧ 1 ≤ m ∧ m ≤ 1000000000000000000000000000000 := by
    simp only [List.mem_cons, List.not_mem_nil, or_false] at c3
    rcases c3 with rfl | rfl | rfl <;> exact ⟨_, rfl, by omega, by omega⟩
  obtain ⟨r, st4, e1, e2, ef, e3, e4⟩ := q_drawI m (by omega) (by omega) c2 (by omega)
  have p120 : (2 : Nat) ^ 120 = 1329227995784915872903807060280344576 := by decide +kernel
  have hd : (1 + r).natAbs < 2 ^ 120 := by omega
  have low := s_low i (1 + r) st4 (by omega) (Nat.lt_of_lt_of_le hd (Nat.pow_le_pow_right (by decide) (by decide)))
  refine ⟨Rat.divInt i (1 + r), st4, ?_, e2.le (by omega), ((af.trans bf).trans cf).trans ef, bd_divInt (by omega) (by omega) hd⟩
  have kl : ∀ st, kLst [.int 3, .int 12, .int 1000, .int 1000000000000000000000000000000] st = .ok (.ow (.ls [.int 3, .int 12, .int 1000, .int 1000000000000000000000000000000])) st := fun st => kLst_e (by simp [lim])
  have kl2 : ∀ st, kLst [.int 1, .int 6, .int b] st = .ok (.ow (.ls [.int 1, .int 6, .int b])) st := fun st => kLst_e (by simp [lim])
  refine at_eq fun Z hZ => ?_
  simp_arith [F__law_fraction, m__law_fraction, pw, kl, a1, b1, kl2, c1, e1, low]
  exact hZ
theorem s_isInt {d : D} (h : dat d = true) : F__law_is_integer [d] s = .ret (.sh (.bl (isI d))) s := by
  have hv := fun st => view_dat (st := st) h
  refine at_eq fun Z hZ => ?_
  have e : isI d = true → isB d = false := by cases d <;> simp [isI, isB]
  cases h1 : isI d with
  | true => (simp_arith [F__law_is_integer, m__law_is_integer, hv, e_isIn h, e_isB h, h1, e h1] at hZ ⊢; exact hZ)
  | false => cases h2 : isB d <;> (simp_arith [F__law_is_integer, m__law_is_integer, hv, e_isIn h, e_isB h, h1, h2] at hZ ⊢; exact hZ)
def odd1 : List D := [.non, .bl true, .bl false, .int 0, .int 1, .int (-1), .int 2, .int 3, .int 1000000000000000000000000000000, .int 1000000000000000000000000000001, .int 1000000000000000000000000000000000000000000000000000000000000000000000000000000000000000000000000000, .str "", .str "a", .str "zz", .str "A", .str "a b"]
def odd2 : List D := [.str "abcdefghi", .tup [], .lst [], .dct [], .tup [.str "a"], .lst [.str "a"], .tup [.int 0], .tup [.str "a", .int 0], .tup [.str "a", .str "b", .tup [.int 0]], .dct [(.inr "a", .int 0)], .tup [.int 0, .int 1]]
def odds : List D := odd1 ++ odd2 ++ [.tup [.non, .non]]
theorem odds_dat : ∀ d ∈ odds, dat d = true ∧ wt d ≤ 8000 ∧ dep d ≤ 3 := by decide +kernel
theorem q_odd (h : D2.Pn n cs N store) (hN : N ≤ 800000000) : ∃ (d : D) (store' : List Cell), F__law_odd [.obj n] store = .ret (.sh d) store' ∧ D2.Pn n cs (N + 8) store' ∧ Fr n store store' ∧ d ∈ odds := by
  obtain ⟨d, s1, a1, a2, a3, a4⟩ := q_pick odds (by decide) (by decide) h (by omega)
  refine ⟨d, s1, ?_, a2, a3, a4⟩
  have p1 : opPow (.int 10) (.int 30) = some (.sh (.int 1000000000000000000000000000000)) := rfl
  have p2 : opPow (.int 10) (.int 49) = some (.sh (.int 10000000000000000000000000000000000000000000000000)) := rfl
  have p3 : opPow (.int 10) (.int 50) = some (.sh (.int 100000000000000000000000000000000000000000000000000)) := rfl
  have m1 : opMul (.int 10000000000000000000000000000000000000000000000000) (.int 100000000000000000000000000000000000000000000000000) = some (.sh (.int 1000000000000000000000000000000000000000000000000000000000000000000000000000000000000000000000000000)) := rfl
  have k1 : ∀ st, kLst odd1 st = .ok (.ow (.ls odd1)) st := fun st => kLst_e (by decide)
  have k2 : ∀ st, kLst odd2 st = .ok (.ow (.ls odd2)) st := fun st => kLst_e (by decide)
  have k3 : ∀ st, kLst [.tup [.non, .non]] st = .ok (.ow (.ls [.tup [.non, .non]])) st := fun st => kLst_e (by decide)
  have k4 : ∀ st (x : D), kLst [x] st = .ok (.ow (.ls [x])) st := fun st x => kLst_e (by simp [lim])
  have d0 : ∀ st, kDi [] st = .ok (.ow (.dc [])) st := fun _ => rfl
  have d1 : ∀ st, kDi [(.str (Str.ofString "a"), .int 0)] st = .ok (.ow (.dc [(.inr "a", .int 0)])) st := fun _ => rfl
  have o1 : opAdd (.lst odd1) (.lst odd2) = some (.ow (.ls (odd1 ++ odd2))) := rfl
  have o2 : opAdd (.lst (odd1 ++ odd2)) (.lst [.tup [.non, .non]]) = some (.ow (.ls odds)) := rfl
  have ng : (-(1 : Int)) = -1 := rfl
  unfold odd1 odd2 at o1 o2
  unfold odd1 at k1
  unfold odd2 at k2
  have ad : (1000000000000000000000000000000 : Int) + 1 = 1000000000000000000000000000001 := rfl
  refine at_eq fun Z hZ => ?_
  simp_arith [F__law_odd, m__law_odd, p1, p2, p3, m1, ad, k4, d0, d1, k1, k2, o1, o2, a1]
  exact hZ
end
end D1
set_option Elab.async false
set_option linter.all false
set_option maxRecDepth 100000
set_option maxHeartbeats 4000000
set_option exponentiation.threshold 20000
namespace Lb
open PySem PySem.Spec L2 PM
mutual
/-- data without dicts, ints of seventy digits -/
def nq : D → Bool
  | .non => true
  | .bl _ => true
  | .int i => decide (i.natAbs < 10000000000000000000000000000000000000000000000000000000000000000000000)
  | .str x => dat (.str x)
  | .tup ds => nqs ds
  | .lst ds => nqs ds
  | _ => false
def nqs : List D → Bool
  | [] => true
  | d :: ds => nq d && nqs ds
end
section
variable {d x : D} {ds : List D}
theorem nq_tup : nq (.tup ds) = nqs ds := by simp only [nq]
theorem nq_lst : nq (.lst ds) = nqs ds := by simp only [nq]
theorem nqs_mem (h : nqs ds = true) (hd : d ∈ ds) : nq d = true := by
  induction ds with
  | nil => cases hd
  | cons e ds ih =>
    simp only [nqs, Bool.and_eq_true] at h
    rcases List.mem_cons.mp hd with rfl | hd
    · exact h.1
    · exact ih h.2 hd
theorem log70 {i : Int} (h : i.natAbs < 10000000000000000000000000000000000000000000000000000000000000000000000 * 10) : i.natAbs.log2 < 1900 := by
  have e : (2 : Nat) ^ 300 = 2037035976334486086268445688409378161051468393665936250636140449354381299763336706183397376 := by decide +kernel
  by_cases h0 : i.natAbs = 0
  · rw [h0]; decide
  · have h1 : i.natAbs < 2 ^ 300 := by omega
    have := (Nat.log2_lt h0).mpr h1
    omega
theorem nq_dat : ∀ {d : D}, nq d = true → dat d = true := by
  have A : ∀ n : Nat, ∀ d : D, sizeOf d ≤ n → nq d = true → dat d = true := by
    intro n
    induction n with
    | zero => intro d h; cases d <;> simp at h
    | succ n ih =>
      intro d hs h
      cases d with
      | int i => simp only [nq, decide_eq_true_eq] at h; rw [dat_int]; exact decide_eq_true (log70 (by omega))
      | str x => simpa only [nq] using h
      | tup ds =>
        rw [nq_tup] at h
        rw [dat_tup]
        refine dats_of fun d hd => ih d ?_ (nqs_mem h hd)
        have := List.sizeOf_lt_of_mem hd
        simp only [D.tup.sizeOf_spec] at hs
        omega
      | lst ds =>
        rw [nq_lst] at h
        rw [dat_lst]
        refine dats_of fun d hd => ih d ?_ (nqs_mem h hd)
        have := List.sizeOf_lt_of_mem hd
        simp only [D.lst.sizeOf_spec] at hs
        omega
      | _ => first | (simp [nq] at h; done) | simp
  exact fun {d} h => A (sizeOf d) d (Nat.le_refl _) h
/-- what comes of bending -/
def Bt (d x : D) : Prop := dat x = true ∧ wt x ≤ 2 * wt d + 8000 ∧ dep x ≤ dep d + 3
end
end Lb
namespace D1
open PySem PySem.Spec L2 PM Lb
section
variable {n : Nat} {cs : D2.Scr} {N : Int} {store s : List Cell}
theorem str_dat {i : Int} (h : i.natAbs < 10000000000000000000000000000000000000000000000000000000000000000000000) : opStr (.int i) = some (.sh (.str (toString i : String))) ∧ dat (.str (toString i : String)) = true ∧ wt (.str (toString i : String)) ≤ 1000 := by
  have l1 : (toString i).length ≤ 71 := PySem.int_text_length_le10 (by decide) (k := 70) (by simpa using h)
  have l2 : (Str.ofString (toString i)).length = (toString i).length := PySem.ofString_length _
  have q : ∀ c ∈ (Str.ofString (toString i)).cps.toList, c < 58 := fun c hc => by
    by_cases h2 : c < 58
    · exact h2
    · exact absurd hc (PyProof.Rows.int_text_free' c ⟨by omega, .inr (by omega)⟩ i)
  refine ⟨?_, ?_, ?_⟩
  · show (if i.natAbs.log2 < 1920 then _ else none) = _
    rw [if_pos (by have := log70 (i := i) (by omega); omega)]
  · simp only [dat, Bool.and_eq_true, decide_eq_true_eq, List.all_eq_true]
    exact ⟨by rw [l2]; omega, fun c hc => by have := q c hc; omega⟩
  · simp only [wt]
    rw [l2]
    omega
theorem seq_cases {d : D} (h : (isL d || isT d) = true) : ∃ (l : Bool) (ds : List D), d = if l then .lst ds else .tup ds := by
  cases d with
  | lst ds => exact ⟨true, ds, rfl⟩
  | tup ds => exact ⟨false, ds, rfl⟩
  | _ => simp [isL, isT] at h
/-- no sequence is bent -/
theorem bent_rest {d : D} (hn : nq d = true) (y2 y3 y4 y5 : PM.Slot) (h : D2.Pn n cs N store) (hN : N ≤ 700000000) {Z : FRes → Prop}
    (hZ : ∀ (x : D) (s : List Cell), Bt d x → D2.Pn n cs (N + 16) s → Fr n store s → Z (.ret (.sh x) s)) :
    At (mSeq (mIfS (mAnd (mB (mCall 1 F__law_is_integer (mCons (mV 1) (mNil)))) (mCmp opGt (mCall 2 (F__law_draw 8) (mCons (mV 0) (mCons (mL (.int 3)) (mNil)))) (mL (.int 0)))) (mRet (mCall 2 F__law_pick (mCons (mV 0) (mCons (mLst (mCons (mOp opAdd (mV 1) (mL (.int 1))) (mCons (mOp opSub (mV 1) (mL (.int 1))) (mCons (mUn opNeg (mV 1)) (mCons (mBl (mCmp opEq (mV 1) (mL (.int 1)))) (mCons (mUn opStr (mV 1)) (mCons (mTup (mCons (mV 1) (mNil))) (mNil)))))))) (mNil))))) (mNx))
  (mRet (mCall 1 F__law_odd (mCons (mV 0) (mNil)))) ⟨[.sh (.obj n), .sh d, y2, y3, y4, y5], store⟩) (zTf Z) := by
  have hd := nq_dat hn
  have hv := fun st => view_dat (st := st) hd
  have odd : ∀ (s1 : List Cell) (N1 : Int), D2.Pn n cs N1 s1 → N1 ≤ N + 8 → Fr n store s1 → At (mRet (mCall 1 F__law_odd (mCons (mV 0) (mNil))) ⟨[.sh (.obj n), .sh d, y2, y3, y4, y5], s1⟩) (zTf Z) := fun s1 N1 p1 l1 f1 => by
    obtain ⟨x, s2, b1, b2, b3, b4⟩ := q_odd p1 (by omega)
    obtain ⟨c1, c2, c3⟩ := odds_dat x b4
    simp_arith [b1]
    exact hZ x s2 ⟨c1, by omega, by omega⟩ (b2.le (by omega)) (f1.trans b3)
  cases hI : isI d with
  | false =>
    simp_arith [s_isInt hd, hI]
    have O := odd store N h (by omega) .refl
    simp_arith [] at O
    exact O
  | true =>
    obtain ⟨i, rfl⟩ : ∃ i, d = .int i := by cases d <;> first | exact ⟨_, rfl⟩ | simp [isI] at hI
    have hb : i.natAbs < 10000000000000000000000000000000000000000000000000000000000000000000000 := by simpa [nq] using hn
    obtain ⟨t1, t2, t3⟩ := str_dat hb
    obtain ⟨a, s1, a1, a2, a3, a4⟩ := q_draw 3 (by omega) (by omega) h (by omega)
    have a1' : F__law_draw 8 [.obj n, .int 3] store = .ret (.sh (.int a)) s1 := a1
    have gt : decide ((0 : Int) < (a : Int)) = decide (0 < a) := decide_eq_decide.mpr (by omega)
    cases hc : decide (0 < a) with
    | false =>
      simp_arith [s_isInt hd, hI, a1', gt, hc]
      have O := odd s1 _ a2 (by omega) a3
      simp_arith [] at O
      exact O
    | true =>
      obtain ⟨x, s2, b1, b2, b3, b4⟩ := q_pick [.int (i + 1), .int (i - 1), .int (-i), .bl (decide (i = 1)), .str (toString i : String), .tup [.int i]] (by simp) (by simp) a2 (by omega)
      have kl : ∀ st, kLst [.int (i + 1), .int (i - 1), .int (-i), .bl (decide (i = 1)), .str (toString i : String), .tup [.int i]] st = .ok (.ow (.ls [.int (i + 1), .int (i - 1), .int (-i), .bl (decide (i = 1)), .str (toString i : String), .tup [.int i]])) st := fun st => kLst_e (by simp [lim])
      have bt : Bt (.int i) x := by
        simp only [List.mem_cons, List.not_mem_nil, or_false] at b4
        rcases b4 with rfl | rfl | rfl | rfl | rfl | rfl
        · exact ⟨by rw [dat_int]; exact decide_eq_true (log70 (by omega)), by simp, by simp⟩
        · exact ⟨by rw [dat_int]; exact decide_eq_true (log70 (by omega)), by simp, by simp⟩
        · exact ⟨by rw [dat_int]; exact decide_eq_true (log70 (by omega)), by simp, by simp⟩
        · exact ⟨by simp, by simp, by simp⟩
        · exact ⟨t2, by rw [wt_int]; omega, by simp [dep]⟩
        · exact ⟨by rw [dat_tup, dats_cons, dats_nil, dat_int]; simp only [Bool.and_true]; exact decide_eq_true (log70 (by omega)), by simp, by simp⟩
      simp_arith [s_isInt hd, hI, a1', gt, hc, t1, kl, eq_i, b1]
      exact hZ x s2 bt (b2.le (by omega)) (a3.trans b3)
theorem q_bent : ∀ (k : Nat) (d : D) (N : Int) (store : List Cell), dep d < k → nq d = true → wt d ≤ 300000 → D2.Pn n cs N store → N + 200 * k ≤ 500000000 →
    ∃ r s', F__law_bent k [.obj n, d] store = .ret r s' ∧ ∃ x, Is r x ∧ Bt d x ∧ D2.Pn n cs (N + 200 * k) s' ∧ Fr n store s'
  | 0, _, _, _, h, _, _, _, _ => by omega
  | k + 1, d, N, store, hk, hn, hw, h, hN => by
    have hd := nq_dat hn
    have hv := fun st => view_dat (st := st) hd
    refine at_ret fun Z hZ => ?_
    have rest : ∀ (s1 : List Cell) (N1 : Int) (y2 y3 y4 y5 : PM.Slot), D2.Pn n cs N1 s1 → N1 ≤ N + 100 → Fr n store s1 → _ := fun s1 N1 y2 y3 y4 y5 p1 l1 f1 => bent_rest (Z := Z) hn y2 y3 y4 y5 p1 (by omega) fun x s2 b p f => hZ _ _ ⟨x, is_sh, b, p.le (by push_cast; omega), f1.trans f⟩
    unfold F__law_bent
    cases hs : (isL d || isT d) with
    | false =>
      have R := rest store N .un .un .un .un h (by omega) .refl
      simp_arith [m__law_bent, hv, e_isLT hd, hs] at R ⊢
      exact R
    | true =>
      obtain ⟨l, ds, hl⟩ := seq_cases hs
      have nqs' : nqs ds = true := by cases l <;> subst hl <;> simpa [nq_tup, nq_lst] using hn
      have ed : dats ds = true := by cases l <;> subst hl <;> simpa using hd
      have ew : wt d = wts ds + 3 := by cases l <;> subst hl <;> simp
      have ep : dep d = deps ds + 1 := by cases l <;> subst hl <;> simp
      have wl := wts_len (ds := ds)
      have ln : opLen d = some (.sh (.int (ds.length : Int))) := by cases l <;> subst hl <;> rfl
      have gt0 : decide ((0 : Int) < (ds.length : Int)) = decide (0 < ds.length) := decide_eq_decide.mpr (by omega)
      cases h0 : decide (0 < ds.length) with
      | false =>
        have R := rest store N .un .un .un .un h (by omega) .refl
        simp_arith [m__law_bent, hv, e_isLT hd, hs, ln, gt0, h0] at R ⊢
        exact R
      | true =>
      have lp : 0 < ds.length := of_decide_eq_true h0
      obtain ⟨i, s1, a1, a2, a3, a4⟩ := q_draw 5 (by omega) (by omega) h (by omega)
      have a1' : F__law_draw 8 [.obj n, .int 5] store = .ret (.sh (.int i)) s1 := a1
      have gti : decide ((0 : Int) < (i : Int)) = decide (0 < i) := decide_eq_decide.mpr (by omega)
      cases hi : decide (0 < i) with
      | false =>
        have R := rest s1 _ .un .un .un .un a2 (by omega) a3
        simp_arith [m__law_bent, hv, e_isLT hd, hs, ln, gt0, h0, a1', gti, hi] at R ⊢
        exact R
      | true =>
      obtain ⟨J, s2, b1, b2, b3, hJ⟩ := q_draw ds.length lp (by omega) a2 (by omega)
      obtain ⟨w, s3, c1, c2, c3, c4⟩ := q_draw 8 (by omega) (by omega) b2 (by omega)
      have c1' : F__law_draw 8 [.obj n, .int 8] s2 = .ret (.sh (.int w)) s3 := c1
      obtain ⟨y, hy⟩ : ∃ y, ds[J]? = some y := ⟨_, List.getElem?_eq_getElem hJ⟩
      have my := List.mem_of_getElem? hy
      have wy := wts_at hy
      have dy := deps_mem my
      let S : List D → RV := fun xs => if l then .ow (.ls xs) else .sh (.tup xs)
      let V : List D → D := fun xs => if l then .lst xs else .tup xs
      have isS : ∀ xs, Is (S xs) (V xs) := fun xs => by cases l; exact is_sh; exact is_ow
      have bS : ∀ xs, (S xs).bor = .sh (V xs) := fun xs => (isS xs).bor
      have fS : ∀ xs st, RV.frz (S xs) st = .ok (V xs) st := fun xs st => (isS xs).frz
      have xS : ∀ xs st, RV.fix (S xs) st = .ok (S xs) st := fun xs st => by cases l <;> rfl
      have vV : ∀ xs st, view st (.sh (V xs)) = some (V xs) := fun xs st => by cases l <;> rfl
      have sl : ∀ a b, opSl d a b = some (S (cut ds a b)) := fun a b => by cases l <;> subst hl <;> rfl
      have rv : opRev d = some (S ds.reverse) := by cases l <;> subst hl <;> rfl
      have ad : ∀ xs ys : List D, xs.length + ys.length ≤ lim → opAdd (V xs) (V ys) = some (S (xs ++ ys)) := fun xs ys hh => by
        cases l
        · show (if xs.length + ys.length ≤ lim then _ else none) = _
          rw [if_pos hh]; rfl
        · show (if xs.length + ys.length ≤ lim then _ else none) = _
          rw [if_pos hh]; rfl
      have tS : ∀ xs (Z : FRes → Prop) st, At (.rt (S xs) st) (zTf Z) = Z (.ret (S xs) st.store) := fun xs Z st => by cases l <;> rfl
      have ix : opIx d (.int (J : Int)) = some (.sh y) := by
        have z := atI_nat hy
        cases l <;> subst hl
        · exact (opIx_t).trans (by rw [z]; rfl)
        · exact (opIx_l).trans (by rw [z]; rfl)
      have fin : ∀ xs, dats xs = true → wts xs ≤ 2 * wts ds + 8000 → deps xs ≤ deps ds + 3 → Bt d (V xs) := fun xs h1 h2 h3 => by
        refine ⟨by cases l <;> simpa [V] using h1, ?_, ?_⟩
        · have : wt (V xs) = wts xs + 3 := by cases l <;> simp [V]
          omega
        · have : dep (V xs) = deps xs + 1 := by cases l <;> simp [V]
          omega
      have lm : ∀ xs ys : List D, xs.length ≤ 2 * ds.length + 1 → ys.length ≤ ds.length → xs.length + ys.length ≤ lim := fun xs ys h1 h2 => by
        unfold lim
        omega
      have ct := cut_to ds J
      have cf : cut ds (some ((J : Int) + 1)) none = ds.drop (J + 1) := cut_from ds (J + 1)
      have ct1 : cut ds none (some ((J : Int) + 1)) = ds.take (J + 1) := cut_to ds (J + 1)
      have cf0 := cut_from ds J
      have eL := e_isL hd
      have t4 : isL d = l := by cases l <;> subst hl <;> rfl
      rw [t4] at eL
      have lt5 : decide ((w : Int) < 5) = decide (w < 5) := decide_eq_decide.mpr (by omega)
      have b1' : F__law_draw 8 [.obj n, .int (ds.length : Int)] s1 = .ret (.sh (.int J)) s2 := b1
      have dt1 : dats (ds.take J) = true := dats_sub (List.take_sublist ..) ed
      have dt2 : dats (ds.drop (J + 1)) = true := dats_sub (List.drop_sublist ..) ed
      have pt1 : deps (ds.take J) ≤ deps ds := deps_sub (List.take_sublist ..)
      have pt2 : deps (ds.drop (J + 1)) ≤ deps ds := deps_sub (List.drop_sublist ..)
      have fr3 := (a3.trans b3).trans c3
      cases h5 : decide (w < 5) with
      | true =>
        obtain ⟨r, s4, f1, x, f2, f3, f4, f5⟩ := q_bent k y (N + 8 + 8 + 8) s3 (by omega) (nqs_mem nqs' my) (by omega) c2 (by omega)
        obtain ⟨g1, g2, g3⟩ := f3
        have z := hZ (S (ds.take J ++ [x] ++ ds.drop (J + 1))) s4 ⟨_, isS _, fin _ (by simp [dats_app, dt1, dt2, g1]) (by simp [wts_app]; omega) (by simp [deps_app]; omega), f4.le (by push_cast; omega), fr3.trans f5⟩
        have ad1 := ad (ds.take J) [x] (lm _ _ (by simp; omega) (by simp; omega))
        have ad2 := ad (ds.take J ++ [x]) (ds.drop (J + 1)) (lm _ _ (by simp; omega) (by simp))
        have kl : ∀ st, kLst [x] st = .ok (.ow (.ls [x])) st := fun st => kLst_e (by simp [lim])
        have tpl : opTuple (.lst [x]) = some (.sh (.tup [x])) := rfl
        have vd1 : V [x] = if l then .lst [x] else .tup [x] := rfl
        cases l with
        | false =>
          have vd2 : D.tup [x] = V [x] := rfl
          simp_arith [m__law_bent, hv, e_isLT hd, hs, ln, gt0, h0, a1', gti, hi, b1', c1', lt5, h5, ix, f1, f2.at, f2.frz, kl, sl, ct, cf, bS, fS, xS, vV, eL, tpl, vd2, ad1, ad2, tS]
          exact z
        | true =>
          have vd2 : D.lst [x] = V [x] := rfl
          simp_arith [m__law_bent, hv, e_isLT hd, hs, ln, gt0, h0, a1', gti, hi, b1', c1', lt5, h5, ix, f1, f2.at, f2.frz, kl, sl, ct, cf, bS, fS, xS, vV, eL, vd2, ad1, ad2, tS]
          exact z
      | false =>
        have w5 : 5 ≤ w := by have := of_decide_eq_false h5; omega
        have ad3 := ad (ds.take J) (ds.drop (J + 1)) (lm _ _ (by simp; omega) (by simp))
        have ad4 := ad (ds.take (J + 1)) (ds.drop J) (lm _ _ (by simp; omega) (by simp))
        have kl : ∀ a b c st, kLst [a, b, c] st = .ok (.ow (.ls [a, b, c])) st := fun a b c st => kLst_e (by simp [lim])
        have sb : (w : Int) - 5 = ((w - 5 : Nat) : Int) := by omega
        obtain ⟨xs, hxs, q1, q2, q3⟩ : ∃ xs, [V (ds.take J ++ ds.drop (J + 1)), V (ds.take (J + 1) ++ ds.drop J), V ds.reverse][w - 5]? = some (V xs) ∧ dats xs = true ∧ wts xs ≤ 2 * wts ds ∧ deps xs ≤ deps ds := by
          have t1 := wts_take (ds := ds) J
          have t2 := wts_take (ds := ds) (J + 1)
          have w8 : w = 5 ∨ w = 6 ∨ w = 7 := by omega
          rcases w8 with rfl | rfl | rfl
          · exact ⟨_, rfl, by simp [dats_app, dt1, dt2], by rw [wts_app]; omega, by rw [deps_app]; omega⟩
          · exact ⟨_, rfl, by simp [dats_app, dats_sub (List.take_sublist ..) ed, dats_sub (List.drop_sublist ..) ed], by rw [wts_app]; omega, by rw [deps_app]; have := deps_sub (List.take_sublist (J + 1) ds); have := deps_sub (List.drop_sublist J ds); omega⟩
          · exact ⟨_, rfl, dats_rev ed, by rw [wts_rev]; omega, deps_rev⟩
        have z := hZ (.sh (V xs)) s3 ⟨_, is_sh, fin xs q1 (by omega) (by omega), c2.le (by push_cast; omega), fr3⟩
        have ix2 : opIx (.lst [V (ds.take J ++ ds.drop (J + 1)), V (ds.take (J + 1) ++ ds.drop J), V ds.reverse]) (.int ((w - 5 : Nat) : Int)) = some (.sh (V xs)) := by
          rw [opIx_l, atI_nat hxs]
          rfl
        simp_arith [m__law_bent, hv, e_isLT hd, hs, ln, gt0, h0, a1', gti, hi, b1', c1', lt5, h5, sl, ct, cf, ct1, cf0, bS, fS, xS, vV, rv, ad3, ad4, kl, sb, ix2]
        exact z
end
end D1
set_option Elab.async false
set_option linter.all false
set_option maxRecDepth 100000
set_option maxHeartbeats 4000000
set_option exponentiation.threshold 20000
namespace A01
open PySem PySem.Spec L2 PM Lb
open D1 (F__law_low s_lowN s_isInt F__law_is_integer)
section
variable {s : List Cell} {d e : D}
theorem dat_b {m : Int} (h : dat (.int m) = true) : m.natAbs < 2 ^ 1900 := lg_of (by simpa using h)
/-- fraction of any two values -/
def okF (d e : D) : Bool := match d, e with
  | .int _, .int m => !decide (m = 0)
  | _, _ => false
def bad (d e : D) : Exc := ⟨.own "InvalidFraction", some [("value", .tup [d, e])]⟩
theorem f_ok (n m : Int) (hm : m ≠ 0) (hb : dat (.int m) = true) (hn : dat (.int n) = true) : runF m_fraction 0 [.int n, .int m] s = .ret (.sh (fr (Rat.divInt n m))) s := by
  have e1 := s_isI (s := s) hn
  have e2 := s_isI (s := s) hb
  have r := s_reduced (s := s) n m hm (Nat.lt_of_lt_of_le (dat_b hb) (Nat.pow_le_pow_right (by decide) (by decide)))
  have h0 : decide (m = 0) = false := decide_eq_false hm
  refine at_eq fun Z hZ => ?_
  simp_arith [m_fraction, e1, e2, isI, eq_i, h0, r]
  exact hZ
theorem f_bad (hd : dat d = true) (he : dat e = true) (h : okF d e = false) : runF m_fraction 0 [d, e] s = .exc (bad d e) s := by
  have e1 := s_isI (s := s) hd
  have e2 := s_isI (s := s) he
  have v1 := fun st => view_dat (st := st) hd
  have v2 := fun st => view_dat (st := st) he
  refine at_eq fun Z hZ => ?_
  cases i1 : isI d with
  | false => (simp_arith [m_fraction, e1, e2, i1, v1, v2]; exact hZ)
  | true => cases i2 : isI e with
    | false => (simp_arith [m_fraction, e1, e2, i1, i2, v1, v2]; exact hZ)
    | true =>
      obtain ⟨i, rfl⟩ : ∃ i, d = .int i := by cases d <;> first | exact ⟨_, rfl⟩ | simp [isI] at i1
      obtain ⟨j, rfl⟩ : ∃ j, e = .int j := by cases e <;> first | exact ⟨_, rfl⟩ | simp [isI] at i2
      have h0 : decide (j = 0) = true := by simpa [okF] using h
      simp_arith [m_fraction, e1, e2, i1, i2, eq_i, h0]
      exact hZ
theorem s_ref_ok {cb : List Cell → FRes} {v : V} {x : D} (h : cb s = .ret (.sh x) s) : F__law_refused cb [.val v] s = .ret (.sh .non) s := by
  have cbE : ∀ (st : State), st.env[0]? = some (.sh (.val v)) → st.store = s → mCb 0 v cb st = .ok (.sh x) st := fun st h1 h2 => by
    unfold mCb
    rw [if_pos h1, h2, h, ← h2]
    rfl
  have en : entry [.val v] 2 = [.sh (.val v), .un, .un] := rfl
  refine at_eq fun Z hZ => ?_
  simp [F__law_refused, runH1, runF, m__law_refused, en, mV, mVar, cbE, flyX]
  exact hZ
theorem s_ref_bad {cb : List Cell → FRes} {v : V} (hd : dat d = true) (he : dat e = true) (h : cb s = .exc (bad d e) s) : F__law_refused cb [.val v] s = .ret (.ow (.ls [.tup [d, e]])) s := by
  have cbE : ∀ (st : State), st.env[0]? = some (.sh (.val v)) → st.store = s → mCb 0 v cb st = .exc (bad d e) st := fun st h1 h2 => by
    unfold mCb
    rw [if_pos h1, h2, h, ← h2]
    rfl
  have en : entry [.val v] 2 = [.sh (.val v), .un, .un] := rfl
  have vx : ∀ st, view st (.sh (.exn "InvalidFraction" [("value", .tup [d, e])])) = some (.exn "InvalidFraction" [("value", .tup [d, e])]) := fun _ => rfl
  have nx : opIs2 (.exn "InvalidFraction" [("value", .tup [d, e])]) .non = some false := rfl
  have lk : isiX.lookup ((Str.ofString "InvalidFraction"), Tgt.ty "ValueError") = some true := by decide
  have lk2 : isiX.lookup ((Str.ofString "InvalidFraction"), Tgt.own "InvalidText") = some false := by decide
  have fl : flO ["InvalidFraction"] "InvalidFraction" "value" [((Str.ofString "value"), D.tup [d, e])] = some (.sh (.tup [d, e])) := flO_e (by decide) rfl
  refine at_eq fun Z hZ => ?_
  simp [F__law_refused, runH1, runF, m__law_refused, en, mV, mVar, cbE, flyX, bad, vx, nx, lk, lk2, fl]
  exact hZ
/-- what a lambda's call is told to be -/
def toldR (b : Bool) (d e : D) : RV := if b then .sh .non else .ow (.ls [.tup [d, e]])
theorem lam_any {caps : List Nat} {mb : M RV} {y0 y1 y2 y3 y4 y5 : PM.Slot} (hd : dat d = true) (he : dat e = true) (h0 : s[0]? = some (.tab tb__law_refused_right "_law_refused_right.<locals>.<lambda>")) (hf : frzL caps ⟨[y0, y1, y2, y3, y4, y5], s⟩ = .ok () ⟨[y0, y1, y2, y3, y4, y5], s⟩)
    (hc : cbOf caps mb [y0, y1, y2, y3, y4, y5] s = runF m_fraction 0 [d, e] s) :
    mLam 0 tb__law_refused_right "_law_refused_right.<locals>.<lambda>" caps F__law_refused mb ⟨[y0, y1, y2, y3, y4, y5], s⟩ = .ok (toldR (okF d e) d e) ⟨[y0, y1, y2, y3, y4, y5], s⟩ := by
  cases hk : okF d e with
  | true =>
    obtain ⟨i, j, rfl, rfl, hj⟩ : ∃ i j, d = .int i ∧ e = .int j ∧ j ≠ 0 := by
      cases d <;> first | (simp [okF] at hk; done) | skip
      cases e <;> first | (simp [okF] at hk; done) | skip
      exact ⟨_, _, rfl, rfl, by simpa [okF] using hk⟩
    rw [mLam_e (F := .ret (.sh .non) s) hf h0 (fun v => s_ref_ok (hc.trans (f_ok i j hj he hd)))]
    rfl
  | false =>
    rw [mLam_e (F := .ret (.ow (.ls [.tup [d, e]])) s) hf h0 (fun v => s_ref_bad hd he (hc.trans (f_bad hd he hk)))]
    rfl
end
end A01
set_option Elab.async false
set_option linter.all false
set_option maxRecDepth 100000
set_option maxHeartbeats 4000000
namespace Nw
open PySem PySem.Spec L2 PM
end Nw
set_option Elab.async false
set_option linter.all false
set_option maxRecDepth 100000
set_option maxHeartbeats 4000000
namespace D2
open PySem PySem.Spec L2 PM
end D2
set_option Elab.async false
set_option linter.all false
set_option maxRecDepth 100000
set_option maxHeartbeats 4000000
namespace Nw
open PySem PySem.Spec L2 PM
open Lb (F_is_integer F_reduced)
def m_fraction : MS :=
  mSeq (mIfS (mOr (mNot (mB (mCall 1 F_is_integer (mCons (mV 0) (mNil))))) (mOr (mNot (mB (mCall 1 F_is_integer (mCons (mV 1) (mNil))))) (mCmp opEq (mV 1) (mL (.int 0))))) (mStk) (mNx))
  (mRet (mCall 2 F_reduced (mCons (mV 0) (mCons (mV 1) (mNil)))))
def pick_fraction_2p {α : Type} : List α → List α → List α
  | [a0, a1], [b0] => [a0, a1]
  | xs, _ => xs
def F_fraction_2p : Fn := fun ds store => runF m_fraction 0 (pick_fraction_2p ds [.int 1]) store
end Nw
set_option Elab.async false
set_option linter.all false
set_option maxRecDepth 100000
set_option maxHeartbeats 4000000
namespace D4
open PySem PySem.Spec L2 PM
open D1 (m__law_pen F__law_pen)
open Lb (m_is_tuple_of F_is_tuple_of m_is_integer F_is_integer m_divisor F_divisor m_is_fraction F_is_fraction)
def m__law_draw : MS :=
  mSeq (mIfS (mCmp opGt (mOp opIx (mV 0) (mL (.str "left"))) (mL (.int 0))) (mSeq (mSet 2 (mOp opMod (mOp opIx (mV 0) (mL (.str "left"))) (mV 1)))
  (mSeq (mPut (mV 0) (mL (.str "left")) (mOp opFdv (mOp opIx (mV 0) (mL (.str "left"))) (mV 1)))
  (mRet (mV 2)))) (mNx))
  (mSeq (mSet 3 (mOp opIx (mV 0) (mL (.str "used"))))
  (mSeq (mPut (mV 0) (mL (.str "used")) (mOp opAdd (mV 3) (mL (.int 1))))
  (mSeq (mSet 4 (mOp opAdd (mOp opMul (mL (.int 47)) (mV 3)) (mL (.int 17))))
  (mSeq (mIfS (mCmp opNe (mOp opIx (mV 0) (mL (.str "cells"))) (mLst (mNil))) (mSet 4 (mOp opIx (mOp opIx (mV 0) (mL (.str "cells"))) (mOp opMod (mV 3) (mUn opLen (mOp opIx (mV 0) (mL (.str "cells"))))))) (mNx))
  (mSeq (mIfS (mAnd (mCmp opLt (mV 3) (mUn opLen (mOp opIx (mV 0) (mL (.str "cells"))))) (mCmp opGe (mUn opAbs (mV 4)) (mOp opPow (mL (.int 10)) (mL (.int 18))))) (mSeq (mPut (mV 0) (mL (.str "left")) (mOp opFdv (mOp opSub (mUn opAbs (mV 4)) (mOp opPow (mL (.int 10)) (mL (.int 18)))) (mV 1)))
  (mRet (mOp opMod (mOp opSub (mUn opAbs (mV 4)) (mOp opPow (mL (.int 10)) (mL (.int 18)))) (mV 1)))) (mNx))
  (mSeq (mSet 5 (mOp opAdd (mOp opMul (mOp opMod (mV 4) (mL (.int 4294967231))) (mL (.int 1103515245))) (mOp opMul (mOp opMul (mL (.int 40013)) (mV 3)) (mV 3))))
  (mSeq (mSet 5 (mOp opMod (mOp opAdd (mOp opAdd (mV 5) (mOp opMul (mL (.int 524287)) (mV 3))) (mL (.int 29))) (mL (.int 4294967197))))
  (mSeq (mPar 6 7 (mL (.int 0)) (mV 1))
  (mSeq (mWhile (fun st => natAt st 7 + 1) (mCmp opGt (mV 7) (mL (.int 0))) (mSeq (mSet 5 (mOp opMod (mOp opAdd (mOp opAdd (mOp opAdd (mOp opMul (mV 5) (mV 5)) (mOp opMul (mL (.int 12582917)) (mV 5))) (mOp opMul (mL (.int 11)) (mV 3))) (mL (.int 7))) (mL (.int 4294967189))))
  (mSeq (mSet 6 (mOp opAdd (mOp opMul (mV 6) (mL (.int 67108864))) (mOp opFdv (mOp opMod (mOp opMul (mV 5) (mOp opAdd (mV 5) (mL (.int 25165843)))) (mL (.int 4294967279))) (mL (.int 64)))))
  (mSet 7 (mOp opFdv (mV 7) (mL (.int 67108864)))))))
  (mRet (mOp opMod (mV 6) (mV 1))))))))))))
def F__law_draw : Fn := runF m__law_draw 6
def m__law_pick : MS :=
  mRet (mOp opIx (mV 1) (mCall 2 F__law_draw (mCons (mV 0) (mCons (mUn opLen (mV 1)) (mNil)))))
def F__law_pick : Fn := runF m__law_pick 0
def m__law_fraction : MS :=
  mSeq (mPar 2 3 (mUn opAbs (mV 0)) (mV 1))
  (mSeq (mWhile (fun st => natAt st 3 + 1) (mCmp opGt (mV 3) (mL (.int 0))) (mPar 2 3 (mV 3) (mOp opMod (mV 2) (mV 3))))
  (mRet (mTup (mCons (mOp opFdv (mV 0) (mV 2)) (mCons (mOp opFdv (mV 1) (mV 2)) (mNil))))))
def F__law_fraction : Fn := runF m__law_fraction 2
def m__law_integer : MS :=
  mRet (mOp opSub (mCall 2 F__law_draw (mCons (mV 0) (mCons (mOp opAdd (mOp opMul (mL (.int 2)) (mV 1)) (mL (.int 1))) (mNil)))) (mV 1))
def F__law_integer : Fn := runF m__law_integer 0
end D4
set_option Elab.async false
set_option linter.all false
set_option maxRecDepth 100000
set_option maxHeartbeats 4000000
namespace D2
open PySem PySem.Spec L2 PM
open D4 (F__law_fraction)
end D2
set_option Elab.async false
set_option linter.all false
set_option maxRecDepth 100000
set_option maxHeartbeats 4000000
set_option exponentiation.threshold 20000
namespace D4
open PySem PySem.Spec L2 PM Lb
open D1 (Fr Fr.refl Fr.trans fr_set low_loop pen Pn draw_pre drawM sml_b pow26 s_pen m__law_pen F__law_pen)
def loopB : MS := (mSeq (mSet 5 (mOp opMod (mOp opAdd (mOp opAdd (mOp opAdd (mOp opMul (mV 5) (mV 5)) (mOp opMul (mL (.int 12582917)) (mV 5))) (mOp opMul (mL (.int 11)) (mV 3))) (mL (.int 7))) (mL (.int 4294967189))))
  (mSeq (mSet 6 (mOp opAdd (mOp opMul (mV 6) (mL (.int 67108864))) (mOp opFdv (mOp opMod (mOp opMul (mV 5) (mOp opAdd (mV 5) (mL (.int 25165843)))) (mL (.int 4294967279))) (mL (.int 64)))))
  (mSet 7 (mOp opFdv (mV 7) (mL (.int 67108864))))))
def tailD : MS := (mSeq (mSet 5 (mOp opAdd (mOp opMul (mOp opMod (mV 4) (mL (.int 4294967231))) (mL (.int 1103515245))) (mOp opMul (mOp opMul (mL (.int 40013)) (mV 3)) (mV 3))))
  (mSeq (mSet 5 (mOp opMod (mOp opAdd (mOp opAdd (mV 5) (mOp opMul (mL (.int 524287)) (mV 3))) (mL (.int 29))) (mL (.int 4294967197))))
  (mSeq (mPar 6 7 (mL (.int 0)) (mV 1))
  (mSeq (mWhile (fun st => natAt st 7 + 1) (mCmp opGt (mV 7) (mL (.int 0))) loopB)
  (mRet (mOp opMod (mV 6) (mV 1)))))))
theorem draw_eq : m__law_draw = drawM 47 17 tailD := rfl
theorem loop_ok (o many c : D) (ui : Int) (hu0 : 0 ≤ ui) (hu1 : ui ≤ 1000000001) (s : List Cell) (n : Nat) : ∀ (i j : Nat) (size total blend : Int), size < n → 0 ≤ size → size < ((2 : Nat) ^ (26 * i) : Nat) → 0 ≤ total → total < ((2 : Nat) ^ (26 * j) : Nat) → i + j ≤ 400 → 0 ≤ blend → blend < 5000000000 →
    ∃ b' t', mWhileN n (mCmp opGt (mV 7) (mL (.int 0))) loopB ⟨[.sh o, .sh many, .un, .sh (.int ui), .sh c, .sh (.int blend), .sh (.int total), .sh (.int size)], s⟩ = .nx ⟨[.sh o, .sh many, .un, .sh (.int ui), .sh c, .sh (.int b'), .sh (.int t'), .sh (.int 0)], s⟩ ∧ 0 ≤ t' := by
  induction n with
  | zero => intro i j size total blend h1 h2; omega
  | succ n ih =>
    intro i j size total blend h1 h2 h3 h4 h5 h6 h7 h8
    by_cases hz : 0 < size
    · obtain ⟨i, rfl⟩ : ∃ k, i = k + 1 := by
        cases i with
        | zero => simp at h3; omega
        | succ k => exact ⟨k, rfl⟩
      have s0 := sml_b (x := blend) (by omega) (by omega)
      have su := sml_b (x := ui) (by omega) (by omega)
      have c1 : sml 12582917 = true := by decide
      have c2 : sml 11 = true := by decide
      have c3 : sml 67108864 = true := by decide
      have st : sml total = true := sml_of (k := 26 * j) (by omega) (by omega)
      have o1 := opMod_i (i := blend * blend + 12582917 * blend + 11 * ui + 7) (j := 4294967189) (by decide)
      obtain ⟨x, ex⟩ : ∃ x, x = (blend * blend + 12582917 * blend + 11 * ui + 7) % 4294967189 := ⟨_, rfl⟩
      have bx : 0 ≤ (blend * blend + 12582917 * blend + 11 * ui + 7) % 4294967189 ∧ (blend * blend + 12582917 * blend + 11 * ui + 7) % 4294967189 < 4294967189 := ⟨Int.emod_nonneg _ (by decide), Int.emod_lt_of_pos _ (by decide)⟩
      rw [← ex] at o1 bx
      have s1 := sml_b (x := x) (by omega) (by omega)
      have s2 := sml_b (x := x + 25165843) (by omega) (by omega)
      have o2 := opMod_i (i := x * (x + 25165843)) (j := 4294967279) (by decide)
      obtain ⟨y, ey⟩ : ∃ y, y = x * (x + 25165843) % 4294967279 := ⟨_, rfl⟩
      have by' : 0 ≤ x * (x + 25165843) % 4294967279 ∧ x * (x + 25165843) % 4294967279 < 4294967279 := ⟨Int.emod_nonneg _ (by decide), Int.emod_lt_of_pos _ (by decide)⟩
      rw [← ey] at o2 by'
      have o3 := opFdv_i (i := y) (j := 64) (by decide) (by decide)
      have o4 := opFdv_i (i := size) (j := 67108864) (by decide) (by decide)
      have m1 : opMul (.int blend) (.int blend) = some (.sh (.int (blend * blend))) := opMul_i s0 s0
      have m2 : opMul (.int 12582917) (.int blend) = some (.sh (.int (12582917 * blend))) := opMul_i c1 s0
      have m3 : opMul (.int 11) (.int ui) = some (.sh (.int (11 * ui))) := opMul_i c2 su
      have m4 : opMul (.int x) (.int (x + 25165843)) = some (.sh (.int (x * (x + 25165843)))) := opMul_i s1 s2
      have m5 : opMul (.int total) (.int 67108864) = some (.sh (.int (total * 67108864))) := opMul_i st c3
      have p1 := pow26 i
      have p2 := pow26 j
      have q1 : size / 67108864 < n := by omega
      have q2 : 0 ≤ size / 67108864 := by omega
      have q3 : size / 67108864 < ((2 : Nat) ^ (26 * i) : Nat) := by
        rw [p1] at h3
        generalize (2 : Nat) ^ (26 * i) = P at *
        omega
      have q4 : 0 ≤ total * 67108864 + y / 64 := by omega
      have q5 : total * 67108864 + y / 64 < ((2 : Nat) ^ (26 * (j + 1)) : Nat) := by
        rw [p2]
        generalize (2 : Nat) ^ (26 * j) = P at *
        omega
      obtain ⟨b', t', i1, i2⟩ := ih i (j + 1) (size / 67108864) (total * 67108864 + y / 64) x q1 q2 q3 q4 q5 (by omega) (by omega) (by omega)
      refine ⟨b', t', ?_, i2⟩
      clear h3 h5 p1 p2 q3 q5 ex ey
      rw [r_whiles]
      rw [← i1]
      simp [-opMul_i, -opMod_i, -opFdv_i, mV, hz, loopB, m1, m2, m3, m4, m5, o1, o2, o3, o4]
    · have : size = 0 := by omega
      subst this
      refine ⟨blend, total, ?_, h4⟩
      rw [r_whiles]
      simp [mV]
section
variable {n : Nat} {cs : List Int} {N : Int} {store : List Cell}
theorem p_draw (many : Int) (h0 : 0 < many) (hb : many.natAbs < 2 ^ 7800) (h : Pn n cs N store) (hN : N ≤ 900000000) :
    ∃ r store', F__law_draw [.obj n, .int many] store = .ret (.sh (.int r)) store' ∧ Pn n cs (N + 8) store' ∧ Fr n store store' ∧ 0 ≤ r ∧ r < many := by
  obtain ⟨hc, u, l, hs, hu, hu2, hl⟩ := h
  have hn : n < store.length := (List.getElem?_eq_some_iff.mp hs).1
  have en : entry [.obj n, .int many] 6 = .sh (.obj n) :: .sh (.int many) :: .un :: .un :: .un :: [.un, .un, .un] := rfl
  rcases draw_pre 47 17 (by decide) tailD [.un, .un, .un] many n h0 (Nat.lt_of_lt_of_le hb (Nat.pow_le_pow_right (by decide) (by decide))) store cs u l hs hc hu (by omega) hl with ⟨r, u', l', env, h1, h2, h3, h4, h5, h6⟩ | ⟨c, h1⟩
  · refine ⟨r, _, ?_, ⟨hc, u', l', List.getElem?_set_self hn, by omega, by omega, h6⟩, fr_set, h2, h3⟩
    unfold F__law_draw runF
    rw [draw_eq, en, h1]
    rfl
  · have s1 := sml_b (x := u) (by omega) (by omega)
    have b1 : 0 ≤ c % 4294967231 ∧ c % 4294967231 < 4294967231 := ⟨Int.emod_nonneg _ (by decide), Int.emod_lt_of_pos _ (by decide)⟩
    have t1 := sml_b (x := c % 4294967231) (by omega) (by omega)
    have s11 : sml 1103515245 = true := by decide
    have s40 : sml 40013 = true := by decide
    have s52 : sml 524287 = true := by decide
    have s3 := sml_b (x := 40013 * u) (by omega) (by omega)
    have o1 := opMod_i (i := c) (j := 4294967231) (by decide)
    have m1 : opMul (.int (c % 4294967231)) (.int 1103515245) = some (.sh (.int (c % 4294967231 * 1103515245))) := opMul_i t1 s11
    have m2 : opMul (.int 40013) (.int u) = some (.sh (.int (40013 * u))) := opMul_i s40 s1
    have m3 : opMul (.int (40013 * u)) (.int u) = some (.sh (.int (40013 * u * u))) := opMul_i s3 s1
    have m4 : opMul (.int 524287) (.int u) = some (.sh (.int (524287 * u))) := opMul_i s52 s1
    obtain ⟨x1, e1⟩ : ∃ x, x = c % 4294967231 * 1103515245 + 40013 * u * u := ⟨_, rfl⟩
    have a1 : opAdd (.int (c % 4294967231 * 1103515245)) (.int (40013 * u * u)) = some (.sh (.int x1)) := by rw [e1]; rfl
    have o2 := opMod_i (i := x1 + 524287 * u + 29) (j := 4294967197) (by decide)
    obtain ⟨x2, e2⟩ : ∃ x, x = (x1 + 524287 * u + 29) % 4294967197 := ⟨_, rfl⟩
    have b2 : 0 ≤ (x1 + 524287 * u + 29) % 4294967197 ∧ (x1 + 524287 * u + 29) % 4294967197 < 4294967197 := ⟨Int.emod_nonneg _ (by decide), Int.emod_lt_of_pos _ (by decide)⟩
    rw [← e2] at o2 b2
    obtain ⟨b', t', k1, k2⟩ := loop_ok (.obj n) (.int many) (.int c) u hu (by omega) (store.set n (.dc (pen cs (u + 1) l))) (many.natAbs + 1) 300 0 many 0 x2 (by omega) (by omega) (by
      have e : 26 * 300 = 7800 := rfl
      rw [e]
      omega) (by decide) (by decide) (by decide) (by omega) (by omega)
    have oy := opMod_i (i := t') h0
    refine ⟨t' % many, _, ?_, ⟨hc, u + 1, l, List.getElem?_set_self hn, by omega, by omega, hl⟩, fr_set, Int.emod_nonneg _ (by omega), Int.emod_lt_of_pos _ h0⟩
    unfold F__law_draw runF
    rw [draw_eq, en, h1]
    clear h1 e1 e2
    simp [-opMul_i, -opMod_i, -opFdv_i, tailD, mV, natAt, o1, m1, m2, m3, a1, m4, o2, k1, oy]
theorem p_pickV (od : D) (ds : List D) (h0 : ds ≠ []) (hb : ds.length ≤ 1000) (hv : ∀ env s', Fr n store s' → view ⟨env, s'⟩ (.sh od) = some (.lst ds)) (h : Pn n cs N store) (hN : N ≤ 900000000) :
    ∃ d store', F__law_pick [.obj n, od] store = .ret (.sh d) store' ∧ Pn n cs (N + 8) store' ∧ Fr n store store' ∧ d ∈ ds := by
  have hp : 0 < ds.length := List.length_pos_iff.mpr h0
  obtain ⟨r, store', h1, h2, hf, h3, h4⟩ := p_draw (many := (ds.length : Int)) (by omega) (by
    have : (1000 : Nat) < 2 ^ 7800 := Nat.lt_of_lt_of_le (by decide : 1000 < 2 ^ 10) (Nat.pow_le_pow_right (by decide) (by decide))
    omega) h hN
  obtain ⟨i, hi⟩ := Int.eq_ofNat_of_zero_le h3
  have hi2 : i < ds.length := by omega
  have ix : opIx (.lst ds) (.int r) = some (.sh ds[i]) := by
    rw [opIx_l, hi, atI_nat (j := i) (v := ds[i]) (List.getElem?_eq_getElem hi2)]
    rfl
  have v1 := fun env => hv env store .refl
  have v2 := fun env => hv env store' hf
  have lc : opLen (.lst ds) = some (.sh (.int ((ds.length : Nat) : Int))) := rfl
  refine ⟨ds[i], store', ?_, h2, hf, List.getElem_mem hi2⟩
  simp [F__law_pick, runF, m__law_pick, entry, mV, v1, v2, lc, h1, ix]
theorem p_pick (ds : List D) (h0 : ds ≠ []) (hb : ds.length ≤ 1000) (h : Pn n cs N store) (hN : N ≤ 900000000) :
    ∃ d store', F__law_pick [.obj n, .lst ds] store = .ret (.sh d) store' ∧ Pn n cs (N + 8) store' ∧ Fr n store store' ∧ d ∈ ds := p_pickV (.lst ds) ds h0 hb (fun _ _ _ => rfl) h hN
theorem nat_lt {m : Int} {k : Nat} (h : m.natAbs < 2 ^ k) (hk : k ≤ 7800) : m.natAbs < 2 ^ 7800 := Nat.lt_of_lt_of_le h (Nat.pow_le_pow_right (by decide) hk)
end
/-! fractions and means -/
/-- a mean that is drawn -/
def Mn (k : Nat) (q : Rat) : Prop := q.den ≤ 100000000000000000000000000 ∧ q.num.natAbs ≤ (1000000000 + k) * q.den
theorem Mn.le {k l : Nat} {q : Rat} (h : Mn k q) (hl : k ≤ l) : Mn l q := ⟨h.1, Nat.le_trans h.2 (Nat.mul_le_mul_right _ (by omega))⟩
theorem Mn.bd {k : Nat} {q : Rat} (h : Mn k q) (hk : k ≤ 1000000000) : Bd 120 q := by
  have e : (2 : Nat) ^ 120 = 1329227995784915872903807060280344576 := by decide +kernel
  obtain ⟨h1, h2⟩ := h
  have : (1000000000 + k) * q.den ≤ 2000000000 * 100000000000000000000000000 := Nat.mul_le_mul (by omega) h1
  exact ⟨by omega, by omega⟩
end D4
set_option Elab.async false
set_option linter.all false
set_option maxRecDepth 100000
set_option maxHeartbeats 4000000
set_option exponentiation.threshold 20000
namespace Nw
open PySem PySem.Spec L2 PM Lb
open D2 (NmL nmD nmsD Row gD rowK ownK rowsK Gn GRow Good rowOf rowOf_e nxs rgD)
open D4 (F__law_fraction m__law_fraction)
/-! ### means of rings -/
theorem pw (a b c : Nat) (h : a < 2 ^ b) (hc : b ≤ c) : a < 2 ^ c := Nat.lt_of_lt_of_le h (Nat.pow_le_pow_right (by omega) hc)
end Nw
set_option Elab.async false
set_option linter.all false
set_option maxRecDepth 100000
set_option maxHeartbeats 4000000
set_option exponentiation.threshold 20000
namespace Nw
open PySem PySem.Spec L2 PM Lb
open D2 (NmL nmD nmsD rgD)
/-! ### what a node leads to -/
inductive Re (nx : List Nat → List (List Nat)) (u : List Nat) : List Nat → Prop
  | refl : Re nx u u
  | step {v w : List Nat} : Re nx u v → w ∈ nx v → Re nx u w
theorem Re.cl {nx : List Nat → List (List Nat)} {u : List Nat} {P : List Nat → Prop} (h0 : P u) (hs : ∀ v, P v → ∀ w ∈ nx v, P w) {v : List Nat} (h : Re nx u v) : P v := by
  induction h with
  | refl => exact h0
  | step _ hw ih => exact hs _ ih _ hw
theorem Re.in {nx : List Nat → List (List Nat)} {us : List (List Nat)} (hs : ∀ u ∈ us, ∀ v ∈ nx u, v ∈ us) {u v : List Nat} (hu : u ∈ us) (h : Re nx u v) : v ∈ us := h.cl (P := fun v => v ∈ us) hu hs
end Nw
set_option Elab.async false
set_option linter.all false
set_option maxRecDepth 100000
set_option maxHeartbeats 4000000
set_option exponentiation.threshold 20000
namespace Nw
open PySem PySem.Spec L2 PM Lb
open D2 (NmL nmD nmsD rgD)
/-! ### parts -/
noncomputable def rcU (nx : List Nat → List (List Nat)) (us : List (List Nat)) (u : List Nat) : List (List Nat) := ordU (us.filter fun v => @decide (Re nx u v) (Classical.propDecidable _))
noncomputable def part (nx : List Nat → List (List Nat)) (us : List (List Nat)) (u : List Nat) : List (List Nat) := (rcU nx us u).filter fun v => decide (u ∈ rcU nx us v)
noncomputable def keep (nx : List Nat → List (List Nat)) (us : List (List Nat)) (u : List Nat) : Bool := decide ((part nx us u).headD [] = u) && (decide (1 < (part nx us u).length) || decide (u ∈ nx u))
theorem eq_nm (a b : List Nat) : opEq (nmD a) (nmD b) = some (decide (a = b)) := by
  show some (tx a == tx b) = _
  congr 1
  rw [Bool.eq_iff_iff, beq_iff_eq, decide_eq_true_iff]
  exact ⟨fun h => tx_inj h, fun h => by rw [h]⟩
end Nw
set_option Elab.async false
set_option linter.all false
set_option maxRecDepth 100000
set_option maxHeartbeats 4000000
set_option exponentiation.threshold 20000
namespace D2
open PySem PySem.Spec L2 PM Lb
/-- a small thing -/
structure It (d : D) : Prop where
  dat : dat d = true
  wt : Lb.wt d ≤ 10000
  dep : Lb.dep d ≤ 2
end D2
set_option Elab.async false
set_option linter.all false
set_option maxRecDepth 100000
set_option maxHeartbeats 4000000
set_option exponentiation.threshold 20000
namespace Nw
open PySem PySem.Spec L2 PM Lb
open D2 (NmL nmD nmsD Row gD rowK ownK rowsK Gn GRow Good rowOf rowOf_e nxs rgD)
section
variable {st : State} {u : List Nat} {us : List (List Nat)} {r : D2.Row} {R : List (List Nat × D2.Row)} {m : Nat} {o q : List (Key × D)}
theorem view_nm : view st (.sh (nmD u)) = some (nmD u) := rfl
theorem view_rg : view st (.sh (rgD us)) = some (rgD us) := rfl
theorem view_net : view st (.sh (net m o q)) = some (net m o q) := rfl
theorem frz_nm : RV.frz (.sh (nmD u)) st = .ok (nmD u) st := rfl
theorem it_rows : asIt (.dct (rowsK R)) = some ((R.map (·.1)).map nmD) := by
  show some _ = _
  unfold rowsK
  rw [List.map_map, List.map_map]
  rfl
theorem it_row : asIt (.dct (rowK r)) = some ((r.map (·.1)).map nmD) := by
  show some _ = _
  unfold rowK
  rw [List.map_map, List.map_map]
  rfl
theorem it_rg : asIt (rgD us) = some (us.map nmD) := rfl
theorem key_nm : asKey (nmD u) = some (nk u) := rfl
theorem fl_rows : flO ["Network"] "Network" "rows" (netF m o q) = some (.sh (.dct q)) := lk_rows
theorem fl_net {f : Str} {Cs : List Str} : flG Cs f (.sh (net m o q)) st = Out.opt (flO Cs "Network" f (netF m o q)) st := flG_r
end
/-! ### tables of rows -/
structure Rk (R : List (List Nat × D2.Row)) : Prop where
  nd : (R.map (·.1)).Nodup
  nm : ∀ u ∈ R.map (·.1), NmL u
  l8 : R.length ≤ 8
  rw : ∀ p ∈ R, (p.2.map (·.1)).Nodup ∧ (∀ v ∈ p.2.map (·.1), v ∈ R.map (·.1)) ∧ p.2.length ≤ 8
section
variable {R : List (List Nat × D2.Row)} {u v : List Nat} {S : List (List Nat)} {s : List Cell}
theorem Rk.nx (k : Rk R) {p : List Nat × D2.Row} (hp : p ∈ R) : rowOf R p.1 = p.2 := rowOf_e k.nd hp
theorem Rk.mem (k : Rk R) (hu : u ∈ R.map (·.1)) : (u, rowOf R u) ∈ R := by
  obtain ⟨p, hp, rfl⟩ := List.mem_map.mp hu
  rw [k.nx hp]
  exact hp
theorem Rk.row (k : Rk R) (hu : u ∈ R.map (·.1)) : ((rowOf R u).map (·.1)).Nodup ∧ (∀ v ∈ (rowOf R u).map (·.1), v ∈ R.map (·.1)) ∧ (rowOf R u).length ≤ 8 := k.rw _ (k.mem hu)
end
end Nw
set_option Elab.async false
set_option linter.all false
set_option maxRecDepth 100000
set_option maxHeartbeats 4000000
namespace Nw
open PySem PySem.Spec L2 PM
end Nw
set_option Elab.async false
set_option linter.all false
set_option maxRecDepth 100000
set_option maxHeartbeats 4000000
set_option exponentiation.threshold 20000
namespace PM
open PySem PySem.Spec L2
/-! ### how comprehensions with two fors are reckoned -/
def kCw2 (o : Out (List D)) : Out RV := match o with
  | .ok xs st => .ok (.ow (.ls xs)) st
  | _ => .stuck
def kCw (own vs1 : List Nat) (g : D → State → Option State) (t : M Bool) (it1 : M (List D)) (g1 : D → State → Option State) (t1 : M Bool) (e : M RV) (ds : List D) (st : State) : Out RV := kCw2 (mComp2L own vs1 g t it1 g1 t1 e ds [] (st.wipe own))
@[simp] theorem r_comp2 {own vs1 : List Nat} {it it1 : M (List D)} {g g1 : D → State → Option State} {t t1 : M Bool} {e : M RV} {st : State} : mComp2 own vs1 it g t it1 g1 t1 e st = (it st).bd (kCw own vs1 g t it1 g1 t1 e) := by
  unfold mComp2 M.bind
  cases it st <;> rfl
end PM
namespace Nw
open PySem PySem.Spec L2 PM Lb
open D2 (NmL nmD nmsD Row gD rowK ownK rowsK Gn GRow Good rowOf rowOf_e nxs rgD)
end Nw
set_option Elab.async false
set_option linter.all false
set_option maxRecDepth 100000
set_option maxHeartbeats 4000000
set_option exponentiation.threshold 20000
namespace Nw
open PySem PySem.Spec L2 PM Lb
open D2 (NmL nmD nmsD Row gD rowK ownK rowsK Gn GRow Good rowOf rowOf_e nxs rgD)
section
variable {m : Nat} {O : List (List Nat × Int)} {R R' : List (List Nat × D2.Row)} {o r : List (Key × D)} {u v : List Nat} {S us vs us' : List (List Nat)} {s : List Cell} {nx nx' : List Nat → List (List Nat)}
/-! ### parts of the same table are the same -/
theorem Re.same (hs : ∀ u ∈ us, ∀ v ∈ nx u, v ∈ us) (hx : ∀ u ∈ us, ∀ v, v ∈ nx u → v ∈ nx' u) {u v : List Nat} (hu : u ∈ us) (h : Re nx u v) : Re nx' u v := by
  induction h with
  | refl => exact .refl
  | step h1 hw ih => exact .step ih (hx _ (h1.in hs hu) _ hw)
/-! ### the rows that are named -/
end
end Nw
set_option Elab.async false
set_option linter.all false
set_option maxRecDepth 100000
set_option maxHeartbeats 4000000
set_option exponentiation.threshold 20000
namespace D2
/-- what stands at the pen and ahead of it is kept -/
theorem Pn.kp {n : Nat} {cs : Scr} {N : Int} {s s' : List PM.Cell} (h : Pn n cs N s) (k : ∀ i, i ≤ n → s'[i]? = s[i]?) : Pn n cs N s' := by
  obtain ⟨⟨q1, u, l, q2, q3, q4, q5⟩, q6, q7⟩ := h
  exact ⟨⟨q1, u, l, by rw [k n (Nat.le_refl _)]; exact q2, q3, by omega, q5⟩, q6, fun i hi => by rw [k i (by omega)]; exact q7 i hi⟩
end D2
namespace Nw
open PySem PySem.Spec L2 PM Lb
open D2 (NmL nmD nmsD Row gD rowK ownK rowsK Gn GRow Good rowOf rowOf_e nxs rgD RS rsK)
end Nw
set_option Elab.async false
set_option linter.all false
set_option maxRecDepth 100000
set_option maxHeartbeats 4000000
set_option exponentiation.threshold 20000
namespace Lb
open PySem PySem.Spec L2 PM
/-! ### what can be shown, with its weight -/
structure Shn (k p : Nat) (d : D) : Prop where
  dat : dat d = true
  wt : Lb.wt d ≤ k
  dep : Lb.dep d ≤ p
section
variable {k l p q : Nat} {d : D} {ds : List D}
theorem Shn.mono (h : Shn k p d) (h1 : k ≤ l) (h2 : p ≤ q) : Shn l q d := ⟨h.dat, Nat.le_trans h.wt h1, Nat.le_trans h.dep h2⟩
theorem Shn.rep (h : Shn k p d) (h1 : k ≤ lim) (h2 : p ≤ 64) : opRepr d = some (.sh (.str (shw d))) := rep_dat h.dat (Nat.le_trans h.dep h2) (Nat.le_trans h.wt h1)
theorem shns : ∀ {ds : List D}, (∀ d ∈ ds, Shn k p d) → dats ds = true ∧ wts ds ≤ (k + 2) * ds.length ∧ deps ds ≤ p
  | [], _ => ⟨by simp, by simp, by simp⟩
  | d :: ds, h => by
    obtain ⟨h1, h2, h3⟩ := shns fun x hx => h x (List.mem_cons_of_mem d hx)
    obtain ⟨i1, i2, i3⟩ := h d List.mem_cons_self
    simp only [dats_cons, wts_cons, deps_cons, List.length_cons, h1, i1, Nat.mul_add]
    exact ⟨rfl, by omega, by omega⟩
theorem shn_tup (h : ∀ d ∈ ds, Shn k p d) : Shn ((k + 2) * ds.length + 3) (p + 1) (.tup ds) := by
  obtain ⟨h1, h2, h3⟩ := shns h
  exact ⟨by rw [dat_tup]; exact h1, by rw [wt_tup]; omega, by rw [dep_tup]; omega⟩
theorem shn_lst (h : ∀ d ∈ ds, Shn k p d) : Shn ((k + 2) * ds.length + 3) (p + 1) (.lst ds) := by
  obtain ⟨h1, h2, h3⟩ := shns h
  exact ⟨by rw [dat_lst]; exact h1, by rw [wt_lst]; omega, by rw [dep_lst]; omega⟩
end
end Lb
namespace Nw
open PySem PySem.Spec L2 PM Lb
open D2 (NmL nmD nmsD rgD Val)
end Nw
set_option Elab.async false
set_option linter.all false
set_option maxRecDepth 100000
set_option maxHeartbeats 4000000
set_option exponentiation.threshold 20000
namespace A01
open PySem PySem.Spec L2 PM Lb
open D1 (F__law_low s_lowN s_isInt F__law_is_integer)
section
variable {s : List Cell} {d e : D}
theorem s_refused_right (hd : dat d = true) (he : dat e = true) (wd : wt d ≤ 20000) (we : wt e ≤ 20000) (pd : dep d ≤ 20) (pe : dep e ≤ 20) (h0 : s[0]? = some (.tab tb__law_refused_right "_law_refused_right.<locals>.<lambda>")) : F__law_refused_right [d, e] s = .ret (.sh (.bl true)) s := by
  have v1 := fun st => view_dat (st := st) hd
  have v2 := fun st => view_dat (st := st) he
  have i1 := s_isInt (s := s) hd
  have i2 := s_isInt (s := s) he
  have k1 : ∀ (x : D) st, kLst [x] st = .ok (.ow (.ls [x])) st := fun x st => kLst_e (by simp [lim])
  have k3 : ∀ (x y z : D) st, kLst [x, y, z] st = .ok (.ow (.ls [x, y, z])) st := fun x y z st => kLst_e (by simp [lim])
  have one : dat (.int 1) = true := by decide
  have mk2 : ∀ y2 y3 y4 y5, maskE [0, 1] 0 [.sh d, .sh e, y2, y3, y4, y5] = [.sh d, .sh e, .un, .un, .un, .un] := fun _ _ _ _ => rfl
  have mk1 : ∀ y2 y3 y4 y5, maskE [0] 0 [.sh d, .sh e, y2, y3, y4, y5] = [.sh d, .un, .un, .un, .un, .un] := fun _ _ _ _ => rfl
  have c0 : ∀ o : FRes, (∀ x s', o = .ret (.sh x) s' ∨ True) → ∀ st : State, (∃ x, o = .ret (.sh x) st.store) ∨ (∃ c, o = .exc c st.store) → cbF (ofF st o) = o := fun o _ st h => by
    rcases h with ⟨x, rfl⟩ | ⟨c, rfl⟩ <;> rfl
  have tot : ∀ e, dat e = true → (∃ x, runF m_fraction 0 [d, e] s = .ret (.sh x) s) ∨ ∃ c, runF m_fraction 0 [d, e] s = .exc c s := fun e he => by
    cases hk : okF d e with
    | true =>
      obtain ⟨i, j, rfl, rfl, hj⟩ : ∃ i j, d = .int i ∧ e = .int j ∧ j ≠ 0 := by
        cases d <;> first | (simp [okF] at hk; done) | skip
        cases e <;> first | (simp [okF] at hk; done) | skip
        exact ⟨_, _, rfl, rfl, by simpa [okF] using hk⟩
      exact .inl ⟨_, f_ok i j hj he hd⟩
    | false => exact .inr ⟨_, f_bad hd he hk⟩
  have cb1 : ∀ y2 y3 y4 y5, cbOf [0, 1] (mCall 2 F_fraction_2p (mCons (mV 0) (mCons (mV 1) (mNil)))) [.sh d, .sh e, y2, y3, y4, y5] s = runF m_fraction 0 [d, e] s := fun y2 y3 y4 y5 => by
    unfold cbOf
    rw [mk2]
    have q : mCall 2 F_fraction_2p (mCons (mV 0) (mCons (mV 1) (mNil))) ⟨[.sh d, .sh e, .un, .un, .un, .un], s⟩ = ofF ⟨[.sh d, .sh e, .un, .un, .un, .un], s⟩ (runF m_fraction 0 [d, e] s) := by
      simp_arith [show ∀ a b s, F_fraction_2p [a, b] s = runF m_fraction 0 [a, b] s from fun _ _ _ => rfl]
    rw [q]
    exact c0 _ (fun _ _ => .inr trivial) _ (tot e he)
  have cb2 : ∀ y2 y3 y4 y5, cbOf [0, 1] (mCallK 0 2 F_fraction_0p_d_n mNil (mCons (mV 1) (mCons (mV 0) (mNil)))) [.sh d, .sh e, y2, y3, y4, y5] s = runF m_fraction 0 [d, e] s := fun y2 y3 y4 y5 => by
    unfold cbOf
    rw [mk2]
    have q : mCallK 0 2 F_fraction_0p_d_n mNil (mCons (mV 1) (mCons (mV 0) (mNil))) ⟨[.sh d, .sh e, .un, .un, .un, .un], s⟩ = ofF ⟨[.sh d, .sh e, .un, .un, .un, .un], s⟩ (runF m_fraction 0 [d, e] s) := rfl
    rw [q]
    exact c0 _ (fun _ _ => .inr trivial) _ (tot e he)
  have cb3 : ∀ y2 y3 y4 y5, cbOf [0] (mCall 1 F_fraction_1p (mCons (mV 0) (mNil))) [.sh d, .sh e, y2, y3, y4, y5] s = runF m_fraction 0 [d, .int 1] s := fun y2 y3 y4 y5 => by
    unfold cbOf
    rw [mk1]
    have q : mCall 1 F_fraction_1p (mCons (mV 0) (mNil)) ⟨[.sh d, .un, .un, .un, .un, .un], s⟩ = ofF ⟨[.sh d, .un, .un, .un, .un, .un], s⟩ (runF m_fraction 0 [d, .int 1] s) := rfl
    rw [q]
    exact c0 _ (fun _ _ => .inr trivial) _ (tot _ one)
  have l1 := fun y2 y3 y4 y5 => lam_any (d := d) (e := e) hd he h0 (y0 := .sh d) (y1 := .sh e) (y2 := y2) (y3 := y3) (y4 := y4) (y5 := y5) rfl (cb1 y2 y3 y4 y5)
  have l2 := fun y2 y3 y4 y5 => lam_any (d := d) (e := e) hd he h0 (y0 := .sh d) (y1 := .sh e) (y2 := y2) (y3 := y3) (y4 := y4) (y5 := y5) rfl (cb2 y2 y3 y4 y5)
  have l3 := fun y2 y3 y4 y5 => lam_any (d := d) (e := .int 1) hd one h0 (y0 := .sh d) (y1 := .sh e) (y2 := y2) (y3 := y3) (y4 := y4) (y5 := y5) rfl (cb3 y2 y3 y4 y5)
  have sd : Shn 20000 20 d := ⟨hd, wd, pd⟩
  have se : Shn 20000 20 e := ⟨he, we, pe⟩
  have s1 : Shn 20000 20 (.int 1) := ⟨one, by simp, by simp⟩
  have sp : ∀ a b, Shn 20000 20 a → Shn 20000 20 b → Shn 50000 22 (.lst [.tup [a, b]]) := fun a b ha hb => (shn_lst (k := 40007) (p := 21) (ds := [.tup [a, b]]) fun x hx => by
    rw [List.mem_singleton.mp hx]
    exact shn_tup (k := 20000) (ds := [a, b]) fun y hy => by
      simp only [List.mem_cons, List.not_mem_nil, or_false] at hy
      rcases hy with rfl | rfl
      · exact ha
      · exact hb).mono (by simp) (Nat.le_refl _)
  have sn : Shn 50000 22 .non := ⟨by simp, by simp, by simp⟩
  obtain ⟨X, hX⟩ : ∃ X : D, X = if okF d e then .non else .lst [.tup [d, e]] := ⟨_, rfl⟩
  obtain ⟨Y, hY⟩ : ∃ Y : D, Y = if okF d (.int 1) then .non else .lst [.tup [d, .int 1]] := ⟨_, rfl⟩
  have sX : Shn 50000 22 X := by rw [hX]; split; exact sn; exact sp _ _ sd se
  have sY : Shn 50000 22 Y := by rw [hY]; split; exact sn; exact sp _ _ sd s1
  have rp := (shn_lst (k := 50000) (p := 22) (ds := [X, X, Y]) fun x hx => by
    simp only [List.mem_cons, List.not_mem_nil, or_false] at hx
    rcases hx with rfl | rfl | rfl
    · exact sX
    · exact sX
    · exact sY).rep (by simp [lim]) (by omega)
  have fA : ∀ (l : List D) (x : D), l.length < 100 → fApp l [x] = some (.non, l ++ [x]) := fun l x h => fApp_e (by unfold lim; omega)
  have ok1 : okF d (.int 1) = isI d := by cases d <;> rfl
  refine at_eq fun Z hZ => ?_
  unfold F__law_refused_right
  cases hi : isI d with
  | false =>
    have hk : okF d e = false := by cases d <;> first | rfl | simp [isI] at hi
    rw [hk] at hX l1 l2
    rw [ok1, hi] at hY l3
    simp_arith [] at hX hY
    subst hX hY
    simp_arith [m__law_refused_right, i1, hi, v1, v2, k1, l1, l2, l3, toldR, fA, List.length_cons, List.length_nil, Nat.reduceAdd, Nat.reduceLT, List.cons_append, List.nil_append, k3, rp]
    exact hZ
  | true =>
    rw [ok1, hi] at hY l3
    cases hk : okF d e with
    | true =>
      obtain ⟨i, j, rfl, rfl, hj⟩ : ∃ i j, d = .int i ∧ e = .int j ∧ j ≠ 0 := by
        cases d <;> first | (simp [okF] at hk; done) | skip
        cases e <;> first | (simp [okF] at hk; done) | skip
        exact ⟨_, _, rfl, rfl, by simpa [okF] using hk⟩
      have hj' : decide (j = 0) = false := decide_eq_false hj
      rw [hk] at hX l1 l2
      simp_arith [] at hX hY
      subst hX hY
      simp_arith [m__law_refused_right, i1, i2, isI, ne_i, hj', v1, v2, k1, l1, l2, l3, toldR, fA, List.length_cons, List.length_nil, Nat.reduceAdd, Nat.reduceLT, List.cons_append, List.nil_append, k3, rp]
      exact hZ
    | false =>
      rw [hk] at hX l1 l2
      simp_arith [] at hX hY
      subst hX hY
      cases hi2 : isI e with
      | false =>
        simp_arith [m__law_refused_right, i1, hi, i2, hi2, v1, v2, k1, l1, l2, l3, toldR, fA, List.length_cons, List.length_nil, Nat.reduceAdd, Nat.reduceLT, List.cons_append, List.nil_append, k3, rp]
        exact hZ
      | true =>
        obtain ⟨i, rfl⟩ : ∃ i, d = .int i := by cases d <;> first | exact ⟨_, rfl⟩ | simp [isI] at hi
        obtain ⟨j, rfl⟩ : ∃ j, e = .int j := by cases e <;> first | exact ⟨_, rfl⟩ | simp [isI] at hi2
        have hj' : decide (j = 0) = true := by simpa [okF] using hk
        simp_arith [m__law_refused_right, i1, i2, isI, ne_i, hj', v1, v2, k1, l1, l2, l3, toldR, fA, List.length_cons, List.length_nil, Nat.reduceAdd, Nat.reduceLT, List.cons_append, List.nil_append, k3, rp]
        exact hZ
end
end A01
set_option Elab.async false
set_option linter.all false
set_option maxRecDepth 100000
set_option maxHeartbeats 4000000
set_option exponentiation.threshold 20000
namespace A01
open PySem PySem.Spec L2 PM Lb
open D1 (F__law_low s_lowN s_low s_isInt F__law_is_integer q_draw q_pick q_integer q_fraction q_odd q_bent odds odds_dat pen s_pen Fr F__law_pen F__law_pick F__law_integer F__law_odd F__law_fraction F__law_bent)
open D2 (Scr Pn Pn.le)
section
variable {s : List Cell} {d e : D}
theorem eq_ii (a b : Int) (q : Rat) : opEq (.tup [.int a, .int b]) (fr q) = some (decide (a = q.num ∧ b = (q.den : Int))) := by
  have e : ((a == q.num) && (b == (q.den : Int))) = decide (a = q.num ∧ b = (q.den : Int)) := by
    by_cases h1 : a = q.num <;> by_cases h2 : b = (q.den : Int) <;> simp [h1, h2]
  simp [opEq, opEq0, fr, D.py, D.pys, SeqAt.shaped, PyData.canLay0, PyData.canLayAll0, PyData.depth, PyData.depthAll, PyData.eqv, PyData.eqvAll]
  first | exact e | rfl | (rw [← e]; simp)
theorem fr_iff (a b : Int) (hb : 1 ≤ b) : (a = (Rat.divInt a b).num ∧ b = ((Rat.divInt a b).den : Int)) ↔ Int.gcd a b = 1 := by
  have h := fr_divInt a b (by omega)
  have e1 : b.sign = 1 := Int.sign_eq_one_of_pos (by omega)
  have e2 : (b.natAbs : Int) = b := by omega
  unfold fr at h
  rw [e1, e2, Int.one_mul] at h
  injection h with h
  injection h with h1 h2
  injection h2 with h2 _
  injection h1 with h1
  injection h2 with h2
  rw [h1, h2]
  constructor
  · rintro ⟨_, q⟩
    have g0 : 0 < Int.gcd a b := Int.gcd_pos_of_ne_zero_right _ (by omega)
    have hd : ((Int.gcd a b : Nat) : Int) ∣ b := Int.gcd_dvd_right ..
    obtain ⟨c, hc⟩ := hd
    have g1 : ((Int.gcd a b : Nat) : Int) ≠ 0 := by omega
    have q2 : b / ((Int.gcd a b : Nat) : Int) = c := Int.ediv_eq_of_eq_mul_right g1 hc
    rw [q2] at q
    have q3 : ((Int.gcd a b : Nat) : Int) * c = 1 * c := by rw [← hc, Int.one_mul]; exact q
    have hc0 : c ≠ 0 := fun z => by
      rw [z, Int.mul_zero] at hc
      omega
    have := Int.eq_of_mul_eq_mul_right hc0 q3
    omega
  · intro g
    rw [g]
    exact ⟨(Int.ediv_one a).symm, (Int.ediv_one b).symm⟩
/-- the law's own look -/
theorem s_lawFr (h : dat d = true) : F__law_is_fraction [d] s = .ret (.sh (.bl (isFr d))) s := by
  have hv := fun st => view_dat (st := st) h
  have eT := e_isT h
  refine at_eq fun Z hZ => ?_
  unfold F__law_is_fraction
  cases ht : isT d with
  | false =>
    have z : isFr d = false := by cases d <;> first | rfl | simp [isT] at ht
    rw [z] at hZ
    simp_arith [m__law_is_fraction, hv, eT, ht]
    exact hZ
  | true =>
    obtain ⟨ds, rfl⟩ : ∃ ds, d = .tup ds := by cases d <;> first | exact ⟨_, rfl⟩ | simp [isT] at ht
    have ln : opLen (.tup ds) = some (.sh (.int (ds.length : Int))) := rfl
    have d2 : decide ((ds.length : Int) = 2) = decide (ds.length = 2) := decide_eq_decide.mpr (by omega)
    cases hl : decide (ds.length = 2) with
    | false =>
      have z : isFr (.tup ds) = false := by
        match ds, hl with
        | [], _ => rfl
        | [a], _ => cases a <;> rfl
        | [a, b], hl => simp at hl
        | a :: b :: c :: r, _ => cases a <;> first | rfl | (cases b <;> rfl)
      rw [z] at hZ
      simp_arith [m__law_is_fraction, eT, ht, ln, ne_i, d2, hl]
      exact hZ
    | true =>
      have hl' := of_decide_eq_true hl
      match ds, hl' with
      | [a, b], _ =>
      simp only [dat_tup, dats_cons, dats_nil, Bool.and_true, Bool.and_eq_true] at h
      have ix0 : opIx (.tup [a, b]) (.int 0) = some (.sh a) := rfl
      have ix1 : opIx (.tup [a, b]) (.int 1) = some (.sh b) := rfl
      have ia := s_isInt (s := s) h.1
      have ib := s_isInt (s := s) h.2
      have va := fun st => view_dat (st := st) h.1
      have vb := fun st => view_dat (st := st) h.2
      cases h1 : isI a with
      | false =>
        have z : isFr (.tup [a, b]) = false := by cases a <;> first | rfl | simp [isI] at h1
        rw [z] at hZ
        simp_arith [m__law_is_fraction, eT, ht, ln, ne_i, d2, hl, ix0, ix1, ia, h1]
        exact hZ
      | true => cases h2 : isI b with
        | false =>
          have z : isFr (.tup [a, b]) = false := by cases b <;> first | (simp [isI] at h2; done) | (cases a <;> rfl)
          rw [z] at hZ
          simp_arith [m__law_is_fraction, eT, ht, ln, ne_i, d2, hl, ix0, ix1, ia, h1, ib, h2]
          exact hZ
        | true =>
          obtain ⟨i, rfl⟩ : ∃ i, a = .int i := by cases a <;> first | exact ⟨_, rfl⟩ | simp [isI] at h1
          obtain ⟨j, rfl⟩ : ∃ j, b = .int j := by cases b <;> first | exact ⟨_, rfl⟩ | simp [isI] at h2
          cases hj : decide (j < 1) with
          | true =>
            have := of_decide_eq_true hj
            have z : isFr (.tup [.int i, .int j]) = false := by
              show (decide (0 < j) && _) = false
              rw [decide_eq_false (by omega)]
              rfl
            rw [z] at hZ
            simp_arith [m__law_is_fraction, eT, ht, ln, ne_i, d2, hl, ix0, ix1, ia, h1, ib, h2, hj]
            exact hZ
          | false =>
            have hj' := of_decide_eq_false hj
            have low := s_low i j s (by omega) (Nat.lt_of_lt_of_le (dat_b h.2) (Nat.pow_le_pow_right (by decide) (by decide)))
            have z : isFr (.tup [.int i, .int j]) = decide (i = (Rat.divInt i j).num ∧ j = ((Rat.divInt i j).den : Int)) := by
              show (decide (0 < j) && decide (Int.gcd i j = 1)) = _
              rw [decide_eq_true (by omega), Bool.true_and]
              exact decide_eq_decide.mpr (fr_iff i j (by omega)).symm
            rw [z] at hZ
            simp_arith [m__law_is_fraction, eT, ht, ln, ne_i, d2, hl, ix0, ix1, ia, h1, ib, h2, hj, low, view_fr, eq_ii]
            exact hZ
end
end A01
set_option Elab.async false
set_option linter.all false
set_option maxRecDepth 100000
set_option maxHeartbeats 4000000
set_option exponentiation.threshold 20000
local macro_rules
  | `(tactic| simp_arith [$ts,*] $[$l:location]?) => `(tactic| simp only [
    PM.kDeO4_s, PM.kDeO4_i, PM.kDeO3_e, PM.kDeO2_e, PM.kDeO1_e, PM.kDeO_t, PM.kDeO_f, PM.kDsO_s, PM.muR_e, PM.muL_e, PM.mu_loE, PM.muR2_e, PM.muS_e, PM.mu_obE, PM.fPop_l, PM.fRev_e, PM.upL2_e, PM.upL_e, 
    PM.up_loE, PM.upS2_e, PM.upS_e, PM.up_obE, PM.gT_2, PM.gT_3, PM.gT_4, PM.gTL_2, PM.gTL_3, PM.mV, PM.mVar, PM.view_lo, PM.runF, PM.entry0, PM.entry1, PM.entry2, PM.entry3, PM.entry4, PM.entry5, 
    PM.uns_0, PM.uns_s, PM.mRetV, PM.mRetN, PM.opEq_tn, PM.opEq_nn, PM.opEq_d0, PM.opNe_d0, PM.bd_ok, PM.bd_exc, PM.bd_stuck, PM.th_ok, PM.th_exc, PM.th_stuck, PM.sq_nx, PM.sq_rt, PM.sq_exc, PM.sq_bk, 
    PM.sq_ct, PM.sq_stuck, PM.lp_nx, PM.lp_ct, PM.lp_bk, PM.lp_rt, PM.lp_exc, PM.lp_stuck, PM.opt_some, PM.opt_none, PM.on1_e, PM.on2_e, PM.r_ofO, PM.r_at2, PM.r_at1, PM.r_pure, PM.r_mstuck, PM.r_mL, 
    PM.r_nx, PM.r_brk, PM.r_cnt, PM.r_stk, PM.r_seq, PM.r_nil, PM.r_yes, PM.r_no, PM.bor_sh, PM.bor_lo, PM.bor_ow, PM.frz_sh, PM.frz_ow, PM.frz_lo, PM.cfrz_ls, PM.cfrz_dc, PM.slot_sh, PM.slot_ow, 
    PM.isLo_sh, PM.isLo_ow, PM.fix_sh, PM.fix_ow, PM.fix_lo, PM.kOp2_e, PM.kOp_e, PM.r_op, PM.r_cmp, PM.kUn_e, PM.r_un, PM.r_Fm, PM.kBl_e, PM.r_bl, PM.kAnd_t, PM.kAnd_f, PM.kOr_t, PM.kOr_f, PM.kNot_e, 
    PM.kIf_t, PM.kIf_f, PM.kIfS_t, PM.kIfS_f, PM.r_and, PM.r_or, PM.r_not, PM.r_if, PM.r_ifs, PM.toB_bl, PM.r_B, PM.kC3_e, PM.kC2_e, PM.kC1_e, PM.r_cons, PM.kTup_0, PM.kTup_1, PM.kTup_2, PM.kTup_3, 
    PM.kTup_4, PM.kLst_0, PM.r_tup, PM.r_lst, PM.kSet2_e, PM.kSet_e, PM.r_set, PM.kRet2_e, PM.kRet_e, PM.r_ret, PM.kDrop_e, PM.r_drop, PM.kP4_e, PM.kP3_e, PM.kP2_e, PM.kP1_e, PM.r_par, PM.kG2_s, PM.kG2_n, 
    PM.kG1_e, PM.kG_e, PM.r_asg, PM.r_gN, PM.r_gnil, PM.r_gcons, PM.r_while, PM.kW_t, PM.kW_f, PM.kF_e, PM.r_for, PM.kFb_s, PM.kFb_n, PM.kM3_e, PM.kM2_e, PM.kM_e, PM.isSt_e, PM.isLst_e, PM.r_mS1, PM.r_mL1, 
    PM.asIt_t, PM.asIt_l, PM.kIt2_e, PM.kIt_e, PM.r_it, PM.kCall_0, PM.kCall_1, PM.kCall_2, PM.kCall_3, PM.kCall_4, PM.r_call, PM.ofF_sh, PM.ofF_ow, PM.ofF_exc, PM.toF_sh, PM.toF_ow, PM.toF_nx, PM.toF_exc, 
    PM.view_non, PM.view_bl, PM.view_int, PM.view_str, PM.view_tup, PM.view_lst, PM.view_lsF, PM.view_tpF, PM.view_dct, PM.view_rcd, PM.view_val, PM.atI_0, PM.atI_1, PM.atI_2, PM.opAdd_i, PM.opSub_i, 
    PM.opNeg_i, PM.opAbs_i, PM.opLt_i, PM.opLe_i, PM.opGt_i, PM.opGe_i, PM.kCo2_e, PM.r_comp, PM.wipe_e, PM.wipeE_n, PM.wipeE_1, PM.kU_s, PM.kU_n, PM.kU4_e, PM.kU3_e, PM.kU2_e, PM.kU1_e, PM.kU0_e, 
    PM.r_put, PM.kPt_e, PM.r_pt, PM.kS2_e, PM.kS1_e, PM.kS0_e, PM.r_sl, PM.r_js0, PM.r_js, PM.kJo_e, PM.r_join, PM.kNew_e, PM.r_new, PM.kD3_e, PM.kD2_e, PM.kD1'_e, PM.kD1_e, PM.kD0_e, PM.r_pr0, PM.r_pr, 
    PM.r_disp, PM.eq_str', PM.ne_str', PM.kB1_e, PM.kB2_e, PM.r_raise, PM.kRz_0, PM.kRz_1, PM.kRz_2, PM.kTry_nx, PM.kTry_rt, PM.kTry_bk, PM.kTry_ct, PM.kTry_exc, PM.r_try, PM.r_runH0, PM.r_runH, 
    PM.r_runS0, PM.r_runS1, PM.toD_0, PM.toD_1, PM.unS_nx, PM.unS_bk, PM.unS_ct, PM.unS_sh, PM.unS_ow, PM.noS_nx, PM.noS_rt, PM.noS_bk, PM.noS_ct, PM.r_isi, PM.r_isiX, PM.lkB_s, PM.isXG_0t, PM.isXG_0c, 
    PM.isXG_1t, PM.isXG_1c, PM.isG_rt, PM.isG_rc, PM.r_fld, PM.flG_r, PM.r_fldX, PM.fxG_e, PM.kSf2_e, PM.kSf_e, PM.kSf0_e, PM.r_setF, PM.kMk2_n, PM.kMk2_x, PM.r_make, PM.r_makeL, PM.r_fz, PM.r_bin, 
    PM.r_cmp2, PM.r_in2, PM.r_tru, PM.okB_e, PM.trG_b, PM.kN_0, PM.kN_1, PM.kN_2, PM.kN_3, PM.r_callN, PM.r_meth, PM.r_prop, PM.nXo_ok, PM.r_cm, PM.kCall_5, PM.kCall_6, PM.kSt3_e, PM.kSt2_e, PM.kSt1_e, 
    PM.kSt0_e, PM.r_star, PM.kZp2_e, PM.kZp1_e, PM.kZp0_e, PM.kZp_e, PM.r_zip, PM.r_boolC, PM.r_ch, PM.kCh2_e, PM.kCh1_t, PM.kCh1_f, PM.chG_e, PM.kCk_e, PM.r_callK, PM.kQ6_e, PM.kQ5_e, PM.kQ4_e, PM.kQ3_e, 
    PM.kQ2_e, PM.kQ1_e, PM.r_par3, PM.r_rg1, PM.bd_frz, PM.is2_nn, PM.is2_tn, PM.is2_in, PM.is2_sn, PM.is2_bb, PM.isn2_nn, PM.isn2_tn, PM.isn2_in, PM.isn2_bb, PM.isi_tt, PM.isi_lt, PM.isi_ii, PM.isi_ib, 
    PM.kMu2_e, PM.kMu_e, PM.isLs_e, PM.r_mut, PM.isi_l2, PM.isi_t2, PM.isXG_r, PM.bd_okB, PM.at_sq, PM.at_bd, PM.at_th, PM.at_tf, PM.at_of, PM.at_lp, PM.at_try, PM.at_unS, PM.at_noS, PM.at_mk, PM.at_nX, 
    PM.zSq_nx, PM.zSq_rt, PM.zSq_bk, PM.zSq_ct, PM.zSq_exc, PM.zBd_ok, PM.zBd_exc, PM.zTh_ok, PM.zTh_exc, PM.zTf_nx, PM.zTf_sh, PM.zTf_ow, PM.zTf_exc, PM.zOf_sh, PM.zOf_ow, PM.zOf_exc, PM.zLp_nx, 
    PM.zLp_ct, PM.zLp_bk, PM.zLp_rt, PM.zLp_exc, PM.zTry_nx, PM.zTry_rt, PM.zTry_bk, PM.zTry_ct, PM.zTry_exc, PM.zUn_nx, PM.zUn_bk, PM.zUn_ct, PM.zUn_sh, PM.zUn_ow, PM.zNo_nx, PM.zNo_rt, PM.zNo_bk, 
    PM.zNo_ct, PM.zMk_n, PM.zMk_x, PM.zNx_ok, PM.kFs_e, PM.kFo_s, PM.kWs_t, PM.kWs_f, PM.kCe2_e, PM.kCe1_e, PM.kCe_t, PM.kCe_f, PM.kCs_s, PM.kSl_e, PM.r_seal', PM.kItI2_e, PM.kItI_e, PM.r_itI, PM.kDs4_e, 
    PM.kDs3_e, PM.kDs2_e, PM.kDs0_e, PM.kDs5_s, PM.kDs5_i, PM.r_dstar, PM.kDe4_s, PM.kDe4_i, PM.kDe3_e, PM.kDe2_e, PM.kDe1_e, PM.kDe_t, PM.kDs_s, PM.r_dcomp, PM.kSe2_s, PM.kSe2_i, PM.kSe1_e, PM.kSe_t, 
    PM.kSs_s, PM.r_slen, beq_self_eq_true, if_true, if_false, reduceIte, Int.reduceEq, Int.reduceLT, Int.reduceLE, Int.reduceAdd, Int.reduceSub, Int.reduceNeg, Bool.not_true, Bool.not_false, 
    Option.map_some, Option.map_none, Option.bind_some, Option.bind_none, List.getElem?_cons_zero, List.getElem?_cons_succ, List.set_cons_zero, List.set_cons_succ, Bool.and_true, Bool.and_false, 
    Bool.true_and, Bool.false_and, Bool.or_true, Bool.or_false, Bool.true_or, Bool.false_or, decide_true, decide_false, Bool.false_eq_true, List.isEmpty_cons, List.isEmpty_nil, Nw.view_nm, Nw.view_rg, 
    Nw.view_net, Nw.frz_nm, Nw.it_rows, Nw.it_row, Nw.it_rg, Nw.key_nm, Nw.fl_net, Nw.fl_rows, Nw.eq_nm, Lb.eq_i, Lb.ne_i, $ts,*] $[$l:location]?)
namespace Nw
open PySem PySem.Spec L2 PM Lb
open D2 (NmL nmD nmsD rgD Scr Pn Pn.le p_pick p_drawN F__law_pick F__law_draw)
theorem add_l (xs ys : List D) (h : xs.length + ys.length ≤ 1000) : opAdd (.lst xs) (.lst ys) = some (.ow (.ls (xs ++ ys))) := by
  show (if xs.length + ys.length ≤ lim then some (RV.ow (.ls (xs ++ ys))) else none) = _
  rw [if_pos (by unfold lim; omega)]
end Nw
set_option Elab.async false
set_option linter.all false
set_option maxRecDepth 100000
set_option maxHeartbeats 4000000
set_option exponentiation.threshold 20000
namespace A01
open PySem PySem.Spec L2 PM Lb
open D1 (F__law_low s_lowN s_low s_isInt F__law_is_integer q_draw q_pick q_integer q_fraction q_odd q_bent odds odds_dat pen s_pen Fr F__law_pen F__law_pick F__law_integer F__law_odd F__law_fraction F__law_bent)
open D2 (Scr Pn Pn.le)
open Nw (kRg_n)
section
variable {s : List Cell} {d e : D} {cs : Scr} {N : Int}
def Sm (d : D) : Prop := dat d = true ∧ wt d ≤ 20000 ∧ dep d ≤ 20
theorem sm_int {i : Int} (h : i.natAbs < 10000000000000000000000000000000000000000000000000000000000000000000000) : Sm (.int i) := ⟨by rw [dat_int]; exact decide_eq_true (log70 (by omega)), by simp, by simp⟩
theorem sm_odd (h : d ∈ odds) : Sm d := by
  obtain ⟨a, b, c⟩ := odds_dat d h
  exact ⟨a, by omega, by omega⟩
theorem rep_b (b : Bool) : ∃ z, opRepr (.bl b) = some (.sh (.str z)) := ⟨_, rep_dat (d := .bl b) (by simp) (by simp) (by simp [lim])⟩
theorem rep_f {q : Rat} (h : Bk q) : ∃ z, opRepr (fr q) = some (.sh (.str z)) := ⟨_, rep_dat (dat_fr h) (by rw [dep_fr]; omega) (by rw [wt_fr]; unfold lim; omega)⟩
open Lb (F_is_fraction)
noncomputable def bodyR : MS := (mIfS (mNot (mB (mCall 2 F__law_refused_right (mCons (mV 6) (mCons (mV 7) (mNil)))))) (mRet (mL (.bl false))) (mNx))
noncomputable def bodyV : MS := (mIfS (mCmp opNe (mUn opRepr (mCall 1 F_is_fraction (mCons (mV 11) (mNil)))) (mUn opRepr (mCall 1 F__law_is_fraction (mCons (mV 11) (mNil))))) (mRet (mL (.bl false))) (mNx))
theorem ref_loop (L : List (D × D)) (hL : ∀ p ∈ L, Sm p.1 ∧ Sm p.2) (h0 : s[0]? = some (.tab tb__law_refused_right "_law_refused_right.<locals>.<lambda>")) (y0 y1 y2 y3 y4 y5 y6 y7 y8 y9 y10 y11 : PM.Slot) {Z : SOut → Prop}
    (hZ : ∀ y6 y7, Z (.nx ⟨[y0, y1, y2, y3, y4, y5, y6, y7, y8, y9, y10, y11], s⟩)) :
    At (mForL (gT 2 (gsCons (gN 6) (gsCons (gN 7) (gsNil)))) bodyR (L.map fun p => D.tup [p.1, p.2]) ⟨[y0, y1, y2, y3, y4, y5, y6, y7, y8, y9, y10, y11], s⟩) Z := by
  refine at_for (fun j st => ∃ y6 y7, st = ⟨[y0, y1, y2, y3, y4, y5, y6, y7, y8, y9, y10, y11], s⟩) ⟨_, _, rfl⟩ ?_ ?_
  · rintro j _ x hx ⟨y6, y7, rfl⟩ Z h1 _
    rw [List.getElem?_map] at hx
    obtain ⟨p, hp, rfl⟩ := Option.map_eq_some_iff.mp hx
    obtain ⟨⟨a1, a2, a3⟩, b1, b2, b3⟩ := hL p (List.mem_of_getElem? hp)
    unfold bodyR
    simp_arith [s_refused_right a1 b1 a2 b2 a3 b3 h0]
    exact h1 _ ⟨_, _, rfl⟩
  · rintro _ ⟨y6, y7, rfl⟩
    exact hZ _ _
theorem val_loop (L : List D) (hL : ∀ d ∈ L, dat d = true) (y0 y1 y2 y3 y4 y5 y6 y7 y8 y9 y10 y11 : PM.Slot) {Z : SOut → Prop}
    (hZ : ∀ y11, Z (.nx ⟨[y0, y1, y2, y3, y4, y5, y6, y7, y8, y9, y10, y11], s⟩)) :
    At (mForL (gN 11) bodyV L ⟨[y0, y1, y2, y3, y4, y5, y6, y7, y8, y9, y10, y11], s⟩) Z := by
  refine at_for (fun j st => ∃ y11, st = ⟨[y0, y1, y2, y3, y4, y5, y6, y7, y8, y9, y10, y11], s⟩) ⟨_, rfl⟩ ?_ ?_
  · rintro j _ x hx ⟨y11, rfl⟩ Z h1 _
    obtain ⟨z, hz⟩ := rep_b (isFr x)
    have hd := hL x (List.mem_of_getElem? hx)
    unfold bodyV
    simp_arith [s_isFr hd, s_lawFr hd, hz]
    exact h1 _ ⟨_, rfl⟩
  · rintro _ ⟨y11, rfl⟩
    exact hZ _
theorem f1 (n : Int) : F_fraction_1p [.int n] s = runF m_fraction 0 [.int n, .int 1] s := rfl
theorem fk2 (n m : Int) (st : State) : kCk2 0 2 F_fraction_0p_d_n [] [.int m, .int n] st = ofF st (runF m_fraction 0 [.int n, .int m] st.store) := rfl
theorem fk1 (n : Int) (st : State) : kCk2 0 1 F_fraction_0p_n [] [.int n] st = ofF st (runF m_fraction 0 [.int n, .int 1] st.store) := rfl
theorem law_true (ns : List Int) (hl : ns.length ≤ 63) (hb : ∀ z ∈ ns, Builtin.Int.intBits z ≤ 1048576) : ∃ st, F_law [.lsF (ns.map .int)] (tabs0 tabsQ) = .ret (.sh (.bl true)) st := by
  have e0 : tabs0 tabsQ = [.tab tb__law_refused_right "_law_refused_right.<locals>.<lambda>"] := rfl
  rw [e0]
  have pn := s_pen ns [.tab tb__law_refused_right "_law_refused_right.<locals>.<lambda>"]
  rw [List.length_singleton, List.singleton_append] at pn
  have h : Pn 1 ⟨ns.take 63, [.tab tb__law_refused_right "_law_refused_right.<locals>.<lambda>"]⟩ 0 [.tab tb__law_refused_right "_law_refused_right.<locals>.<lambda>", .dc (pen (ns.take 63) 0 0)] := ⟨⟨by rw [List.length_take]; omega, 0, 0, rfl, by omega, by omega, by omega⟩, by simp, fun i hi => by
    have : i = 0 := by simp at hi; omega
    subst this
    rfl⟩
  generalize hcs : (⟨ns.take 63, [.tab tb__law_refused_right "_law_refused_right.<locals>.<lambda>"]⟩ : Scr) = cs at *
  have hG : cs.G = .tab tb__law_refused_right "_law_refused_right.<locals>.<lambda>" :: [] := by rw [← hcs]
  generalize [Cell.tab tb__law_refused_right "_law_refused_right.<locals>.<lambda>", .dc (pen (ns.take 63) 0 0)] = s0 at *
  have k12 : ∀ st, kRg (.sh (.int 12)) st = .ok ((List.range 12).map fun (k : Nat) => D.int (k : Int)) st := fun st => kRg_n 12 st (by omega)
  have k6 : ∀ st, kRg (.sh (.int 6)) st = .ok ((List.range 6).map fun (k : Nat) => D.int (k : Int)) st := fun st => kRg_n 6 st (by omega)
  refine at_p (P := fun o => ∃ st, o = FRes.ret (.sh (.bl true)) st) fun Z hZ => ?_
  simp_arith [F_law, m_law, pn, k12]
  refine at_for (fun j st => ∃ y2 y3 y4 y5 y6 y7 y8 y9 y11 s, Pn 1 cs (100000 * j) s ∧ st = ⟨[.sh (.lsF (ns.map .int)), .sh (.obj 1), y2, y3, y4, y5, y6, y7, y8, y9, .un, y11], s⟩) ⟨_, _, _, _, _, _, _, _, _, _, by simpa using h, rfl⟩ ?_ ?_
  rotate_left
  · rintro _ ⟨y2, y3, y4, y5, y6, y7, y8, y9, y11, s, hP, rfl⟩
    simp_arith []
    exact hZ _ ⟨_, rfl⟩
  rintro j _ x hx ⟨y2, y3, y4, y5, y6, y7, y8, y9, y11, s, hP, rfl⟩ Z h1 _
  have hj := (List.getElem?_eq_some_iff.mp hx).1
  rw [List.length_map, List.length_range] at hj
  have pw : opPow (.int 10) (.int 30) = some (.sh (.int 1000000000000000000000000000000)) := rfl
  have kl3 : ∀ a b c st, kLst [a, b, c] st = .ok (.ow (.ls [a, b, c])) st := fun a b c st => kLst_e (by simp [lim])
  have kl5 : ∀ a b c d e st, kLst [a, b, c, d, e] st = .ok (.ow (.ls [a, b, c, d, e])) st := fun a b c d e st => kLst_e (by simp [lim])
  have kl2 : ∀ a b st, kLst [a, b] st = .ok (.ow (.ls [a, b])) st := fun a b st => kLst_e (by simp [lim])
  obtain ⟨bd, s1, a1, a2, a3, a4⟩ := q_pick [.int 4, .int 30, .int 1000000000000000000000000000000] (by simp) (by simp) hP (by omega)
  obtain ⟨b, rfl, hb0, hb1⟩ : ∃ b : Int, bd = .int b ∧ 1 ≤ b ∧ b ≤ 1000000000000000000000000000000 := by
    simp only [List.mem_cons, List.not_mem_nil, or_false] at a4
    rcases a4 with rfl | rfl | rfl <;> exact ⟨_, rfl, by omega, by omega⟩
  obtain ⟨t, s2, b1, b2, b3, b4, b5⟩ := q_integer b (by omega) (by omega) a2 (by omega)
  obtain ⟨u, s3, c1, c2, c3, c4, c5⟩ := q_integer b (by omega) (by omega) b2 (by omega)
  have p120 : (2 : Nat) ^ 120 = 1329227995784915872903807060280344576 := by decide +kernel
  have p8 : (2 : Nat) ^ 120 ≤ 2 ^ 8000 := Nat.pow_le_pow_right (by decide) (by decide)
  have smt : Sm (.int t) := sm_int (by omega)
  have su : Sm (.int u) := sm_int (by omega)
  have su1 : Sm (.int (1 + (u.natAbs : Int))) := sm_int (by omega)
  have s1_ : Sm (.int 1) := sm_int (by decide)
  have bk : ∀ m : Int, m ≠ 0 → m.natAbs < 2 ^ 120 → Bk (Rat.divInt t m) := fun m h1 h2 => (bd_divInt h1 (by omega) h2).mono (by decide)
  obtain ⟨o1, s4, d1, d2, d3, d4⟩ := q_odd c2 (by omega)
  obtain ⟨o2, s5, e1, e2, e3, e4⟩ := q_odd d2 (by omega)
  obtain ⟨o3, s6, f1', f2', f3, f4⟩ := q_odd e2 (by omega)
  obtain ⟨o4, s7, g1, g2, g3, g4⟩ := q_odd f2' (by omega)
  obtain ⟨q, s8, i1, i2, i3, i4⟩ := q_fraction g2 (by omega)
  obtain ⟨o5, s9, j1, j2, j3, j4⟩ := q_odd i2 (by omega)
  have tab7 := g2.at0 hG
  have m2 : opMul (.int 2) (.int t) = some (.sh (.int (2 * t))) := opMul_i (by decide) (sml_of (k := 120) (by omega) (by decide))
  have t1 : fr (Rat.divInt t 1) = .tup [.int t, .int 1] := by
    rw [fr_divInt t 1 (by omega)]
    simp
  have fo1 : ∀ s, F_fraction_1p [.int t] s = .ret (.sh (.tup [.int t, .int 1])) s := fun s => by rw [f1, f_ok t 1 (by omega) s1_.1 smt.1, t1]
  have fo1k : ∀ st, kCk2 0 1 F_fraction_0p_n [] [.int t] st = .ok (.sh (.tup [.int t, .int 1])) st := fun st => by
    rw [fk1, ← f1, fo1]
    rfl
  obtain ⟨z1, hz1⟩ := rep_f (bk 1 (by omega) (by omega))
  rw [t1] at hz1
  have fo2 : ∀ s, F_fraction_2p [.int t, .int (1 + (u.natAbs : Int))] s = .ret (.sh (fr (Rat.divInt t (1 + (u.natAbs : Int))))) s := fun s => f_ok (s := s) t (1 + (u.natAbs : Int)) (by omega) su1.1 smt.1
  have lo2 := fun s => s_low t (1 + (u.natAbs : Int)) s (by omega) (Nat.lt_of_lt_of_le (by omega) p8)
  obtain ⟨z2, hz2⟩ := rep_f (bk (1 + (u.natAbs : Int)) (by omega) (by omega))
  have lp : ∀ a b c d : D × D, (D.tup [D.tup [a.1, a.2], D.tup [b.1, b.2], D.tup [c.1, c.2], D.tup [d.1, d.2]]) = .tup ([a, b, c, d].map fun p => D.tup [p.1, p.2]) := fun _ _ _ _ => rfl
  have itt : ∀ l : List D, asIt (.tup l) = some l := fun _ => rfl
  have rest : At (mSeq (mIfS (mOr (mCmp opNe (mUn opRepr (mCall 1 F_fraction_1p (mCons (mV 4) (mNil)))) (mUn opRepr (mTup (mCons (mV 4) (mCons (mL (.int 1)) (mNil)))))) (mCmp opNe (mUn opRepr (mCallK 0 1 F_fraction_0p_n mNil (mCons (mV 4) (mNil)))) (mUn opRepr (mTup (mCons (mV 4) (mCons (mL (.int 1)) (mNil))))))) (mRet (mL (.bl false))) (mNx))
  (mSeq (mIfS (mCmp opNe (mUn opRepr (mCall 2 F_fraction_2p (mCons (mV 4) (mCons (mOp opAdd (mL (.int 1)) (mUn opAbs (mV 5))) (mNil))))) (mUn opRepr (mCall 2 F__law_low (mCons (mV 4) (mCons (mOp opAdd (mL (.int 1)) (mUn opAbs (mV 5))) (mNil)))))) (mRet (mL (.bl false))) (mNx))
  (mSeq (mFor (mIt (mTup (mCons (mTup (mCons (mV 4) (mCons (mL (.int 0)) (mNil)))) (mCons (mTup (mCons (mCall 1 F__law_odd (mCons (mV 1) (mNil))) (mCons (mV 5) (mNil)))) (mCons (mTup (mCons (mV 4) (mCons (mCall 1 F__law_odd (mCons (mV 1) (mNil))) (mNil)))) (mCons (mTup (mCons (mCall 1 F__law_odd (mCons (mV 1) (mNil))) (mCons (mCall 1 F__law_odd (mCons (mV 1) (mNil))) (mNil)))) (mNil))))))) (gT 2 (gsCons (gN 6) (gsCons (gN 7) (gsNil)))) (mIfS (mNot (mB (mCall 2 F__law_refused_right (mCons (mV 6) (mCons (mV 7) (mNil)))))) (mRet (mL (.bl false))) (mNx)))
  (mSeq (mSet 8 (mCall 1 F__law_fraction (mCons (mV 1) (mNil))))
  (mSeq (mSet 9 (mOp opAdd (mLst (mCons (mV 8) (mCons (mTup (mCons (mV 4) (mCons (mV 5) (mNil)))) (mCons (mTup (mCons (mOp opMul (mL (.int 2)) (mV 4)) (mCons (mL (.int 2)) (mNil)))) (mCons (mLst (mCons (mV 4) (mCons (mL (.int 1)) (mNil)))) (mCons (mCall 1 F__law_odd (mCons (mV 1) (mNil))) (mNil))))))) (mComp [10] (mRg1 (mL (.int 6))) (gN 10) (mYes) (mCall 2 (F__law_bent 4) (mCons (mV 1) (mCons (mV 8) (mNil)))))))
  (mFor (mIt (mV 9)) (gN 11) (mIfS (mCmp opNe (mUn opRepr (mCall 1 F_is_fraction (mCons (mV 11) (mNil)))) (mUn opRepr (mCall 1 F__law_is_fraction (mCons (mV 11) (mNil))))) (mRet (mL (.bl false))) (mNx))))))) ⟨[.sh (.lsF (ns.map .int)), .sh (.obj 1), .sh x, .sh (.int b), .sh (.int t), .sh (.int u), y6, y7, y8, y9, .un, y11], s3⟩) Z := by
    simp_arith [view_fr, fo1, fo1k, hz1, fo2, lo2, hz2, d1, e1, f1', g1, lp (.int t, .int 0) (o1, .int u) (.int t, o2) (o3, o4), itt]
    have RL := fun (Z' : SOut → Prop) => ref_loop (Z := Z') (s := s7) [(.int t, .int 0), (o1, .int u), (.int t, o2), (o3, o4)] (by
      simp only [List.forall_mem_cons]
      exact ⟨⟨smt, sm_int (by decide)⟩, ⟨sm_odd d4, su⟩, ⟨smt, sm_odd e4⟩, ⟨sm_odd f4, sm_odd g4⟩, fun _ h => by cases h⟩) tab7 (.sh (.lsF (ns.map .int))) (.sh (.obj 1)) (.sh x) (.sh (.int b)) (.sh (.int t)) (.sh (.int u)) y6 y7 y8 y9 .un y11
    unfold bodyR at RL
    refine RL _ fun y6 y7 => ?_
    show At _ _
    simp_arith [i1, m2, kl2, j1, kl5, k6]
    refine at_co [.sh (.lsF (ns.map .int)), .sh (.obj 1), .sh x, .sh (.int b), .sh (.int t), .sh (.int u), y6, y7, .sh (fr q), y9, .un, y11] (fun k s' acc => acc.length = k ∧ (∀ d ∈ acc, dat d = true) ∧ Pn 1 cs (100000 * j + 8 + 8 + 8 + 8 + 8 + 8 + 8 + 32 + 8 + 800 * k) s') rfl rfl ⟨rfl, (fun d hd => by cases hd), by simpa using j2⟩ (by rw [List.length_map, List.length_range]; decide) ?_ ?_
    · rintro k s' acc d hd ⟨r1, r2, r3⟩ Z h4 _
      have hk := (List.getElem?_eq_some_iff.mp hd).1
      rw [List.length_map, List.length_range] at hk
      obtain ⟨r, s'', w1, x', w2, w3, w4, w5⟩ := q_bent 4 (fr q) _ s' (by rw [dep_fr]; omega) (by
        have n1 : q.num.natAbs < 2 ^ 120 := i4.1
        have n2 : q.den < 2 ^ 120 := i4.2
        simp only [fr, nq_tup, nqs, nq, Bool.and_true, Bool.and_eq_true, decide_eq_true_eq]
        omega) (by rw [wt_fr]; omega) r3 (by omega)
      simp_arith [w1, w2.at, w2.frz, view_fr, frz_sh]
      exact h4 _ _ _ rfl ⟨by simp [r1], fun d hd => (List.mem_append.mp hd).elim (r2 d) fun z => by rw [List.mem_singleton.mp z]; exact w3.1, w4.le (by push_cast; omega)⟩
    · rintro s' acc ⟨r1, r2, r3⟩
      rw [List.length_map, List.length_range] at r1 r3
      have ad := Nw.add_l [fr q, .tup [.int t, .int u], .tup [.int (2 * t), .int 2], .lst [.int t, .int 1], o5] acc (by simp; omega)
      have VL := val_loop (s := s') ([fr q, .tup [.int t, .int u], .tup [.int (2 * t), .int 2], .lst [.int t, .int 1], o5] ++ acc) (fun d hd => by
        rcases List.mem_append.mp hd with hd | hd
        · simp only [List.mem_cons, List.not_mem_nil, or_false] at hd
          rcases hd with rfl | rfl | rfl | rfl | rfl
          · exact dat_fr (i4.mono (by decide))
          · rw [dat_tup, dats_cons, dats_cons, smt.1, su.1]; rfl
          · rw [dat_tup, dats_cons, dats_cons, (sm_int (i := 2 * t) (by omega)).1, (sm_int (i := 2) (by decide)).1]; rfl
          · rw [dat_lst, dats_cons, dats_cons, smt.1, s1_.1]; rfl
          · exact (sm_odd j4).1
        · exact r2 d hd) (.sh (.lsF (ns.map .int))) (.sh (.obj 1)) (.sh x) (.sh (.int b)) (.sh (.int t)) (.sh (.int u)) y6 y7 (.sh (fr q)) (.sh (.lst ([fr q, .tup [.int t, .int u], .tup [.int (2 * t), .int 2], .lst [.int t, .int 1], o5] ++ acc))) .un y11 (Z := Z) fun y11 => h1 _ ⟨_, _, _, _, _, _, _, _, _, _, r3.le (by push_cast; omega), rfl⟩
      unfold bodyV at VL
      simp_arith [ad]
      exact VL
  by_cases hu : u = 0
  · have h0 : decide (u = 0) = true := decide_eq_true hu
    simp_arith [pw, kl3, a1, b1, c1, ne_i, h0] at rest ⊢
    exact rest
  · have h0 : decide (u = 0) = false := decide_eq_false hu
    have fo : ∀ s, F_fraction_2p [.int t, .int u] s = .ret (.sh (fr (Rat.divInt t u))) s := fun s => f_ok (s := s) t u hu su.1 smt.1
    have fok : ∀ st, kCk2 0 2 F_fraction_0p_d_n [] [.int u, .int t] st = .ok (.sh (fr (Rat.divInt t u))) st := fun st => by
      rw [fk2, f_ok t u hu su.1 smt.1]
      rfl
    have lo := fun s => s_lowN t u s hu (Nat.lt_of_lt_of_le (by omega) p8)
    obtain ⟨z, hz⟩ := rep_f (bk u hu (by omega))
    simp_arith [pw, kl3, a1, b1, c1, ne_i, h0, fo, fok, lo, hz, view_fr] at rest ⊢
    exact rest
end
end A01
set_option Elab.async false
set_option linter.all false
set_option maxRecDepth 100000
set_option maxHeartbeats 0
open PySem PySem.W PySem.Calls PyProof.Rows
theorem PySem.Challenge.cw_pactroads_k01_fractions_holds : PySem.Challenge.rw_pactroads_k01_fractions.Holds := by
  w_on; o_law
  refine HandSHeadRun.head_any (r := OpenLaw.row PySem.Challenge.rw_pactroads_k01_fractions) (q := view (OpenLaw.row PySem.Challenge.rw_pactroads_k01_fractions).prog [24]) (H := A01.hkH) (ob := A01.obH) (M := 4000) (loose := A01.looseH) (d := HandSHeadRun.topDef (OpenLaw.row PySem.Challenge.rw_pactroads_k01_fractions).prog 24) (kwd := []) A01.obH_eq
    (by kernel_rfl) (fun s => by kernel_rfl) A01.runH (by kernel_rfl) (by kernel_rfl) (by kernel_rfl) (by rfl) (by first | assumption | decide +kernel) (by decide +kernel) ⟨rfl, rfl, rfl, rfl, rfl, by decide +kernel⟩ ?hw ?hc
  case hw => w_witness2
  case hc =>
    refine PM.law_endT A01.tabsQ (by decide +kernel) (l := PySem.Challenge.rw_pactroads_k01_fractions) (k := 17) rfl (by kernel_rfl) ⟨rfl, by decide, by decide⟩ ?F
    intro w mg fa h Y G hmg0
    obtain ⟨K, KX, c, TF⟩ := Y
    have hmg : mg ("law" : PySem.Str) = some (.ref fa) := by
      have e : (HandSHeadRun.topDef (OpenLaw.row PySem.Challenge.rw_pactroads_k01_fractions).prog 24).name = ("law" : PySem.Str) := by kernel_rfl
      rw [← e]
      exact hmg0
    have e := hmg.symm.trans (He.glo_ok KX G (c.fact 18 (f := fun K => (He.Fa.glo "law").ok K) rfl))
    cases e
    exact ⟨K, A01.F_law, KX, TF, fun base _ _ TB => A01.ok_law KX G c TB, A01.law_true⟩
