import PyProof.Rows.All
import Wide.All
import OpenK.AllK
import Wide.FinOn
import HandS.ForMost
import HandS.Exc
import HandS.CallSlots
import HandS.HeadHook1
import HandS.Lambda
import HandS.Iter
import HandS.Wide
import HandS.Star
import HandS.IsInst
import HandS.StrMore
import HandS.TupAny
import HandS.FStr
import HandS.Deep
import HandS.SetFor
import HandS.TupLe
import HandS.Ends
import HandS.EndBits
import HandS.Defaults
import HandS.Head0
import HandS.Head1
import HandS.Head2
import HandS.HeadEnd
import HandS.HeadHook2
import OpenK.KOps
import OpenK.KMeth
import HandS.SlotsOwn
import HandS.Property
import HandS.ClsMeth
import HandS.CallLocal
import HandS.Zip
import HandS.NoneIn
import HandS.TryOnly
import KE.KExcInit
import HandS.ExcInit
import HandS.TryMany
import HandS.ExcValue
import PyProof.ReprReads
import PyProof.ReprRoads
import PyProof.CallFns
import HandS.ExcField
import HandS.ExcIs
import PySem.Challenge.RW_pactroads_k73_wishes_made
import HandS.Style
import PyProof.StrLawsRepr
import PyProof.Rows.RegStrFacts
import KE.KRevSl
import HandS.DictComp
import HandS.Text
import KE.KIntText
import KE.IntTextText
import HandS.TupMul
import PyProof.DictUpdate
import PyProof.DictDisplay
import HandS.SetKeys
import HandS.SetBool
import HandS.SortRule
import KE.KSortTupAny
import PyProof.Rows.SetFrom
import PyProof.WalksMore
import HandS.Set
import HandS.EndTab
import KE.KEqDict
import HandS.Conv
import HandS.SortKw
import KE.SortData
import PyProof.FactsAll.range_iterator_1
set_option Elab.async false
set_option linter.all false
set_option maxRecDepth 100000
set_option maxHeartbeats 1200000
/-! Values as trees, a monad of runs, and what it means that a run tells of a piece of the program. -/
namespace PM
open PySem PySem.Spec L2
inductive D where
  | non | bl (b : Bool) | int (i : Int) | str (s : Str)
  | tup (ds : List D) | lst (ds : List D) | lsF (ds : List D) | tpF (ds : List D)
  | dct (kvs : List (Key × D)) | dcT (kvs : List (List Key × D))
  | obj (n : Nat) | rcd (C : Str) (fs : List (Str × D)) | exn0 (C : Str) | exn (C : Str) (fs : List (Str × D)) | cls (C : Str) | val (v : V)
/-- a thing that may change -/
inductive Cell where
  | dead | ls (ds : List D) | dc (kvs : List (Key × D)) | dt (kvs : List (List Key × D)) | ins (C : Str) (fs : List (Str × D)) | tab (P : Addr) (q : Str)
def Cell.frz : Cell → D
  | .dead => .non
  | .ls ds => .lst ds
  | .dc kvs => .dct kvs
  | .dt kvs => .dcT kvs
  | .ins C fs => .rcd C fs
  | .tab P _ => .val (.ref P)
/-- a value that is shared, a new thing that nobody else holds, or the frame's own thing at a slot -/
inductive RV where
  | sh (d : D) | ow (c : Cell) | lo (i : Nat)
inductive Slot where
  | un | sh (d : D) | ow (c : Cell)
def Slot.own : Slot → Bool
  | .ow _ => true
  | _ => false
structure State where
  env : List Slot
  store : List Cell
/-- an exception's class: one of the text, or a built-in one -/
inductive ECls where
  | own (C : Str) | blt (n : String)
def ECls.val (K : PySem.W.Frag) : ECls → Value
  | .own C => .ref (He.ga K C)
  | .blt n => .type n
structure Exc where
  cls : ECls
  fs : Option (List (Str × D))
inductive Out (α : Type) where
  | ok (a : α) (st : State) | exc (c : Exc) (st : State) | stuck
def M (α : Type) := State → Out α
def M.pure {α : Type} (a : α) : M α := fun st => .ok a st
def M.bind {α β : Type} (m : M α) (f : α → M β) : M β := fun st => match m st with
  | .ok a st' => f a st'
  | .exc c st' => .exc c st'
  | .stuck => .stuck
instance : Monad M where
  pure := M.pure
  bind := M.bind
def M.stuck {α : Type} : M α := fun _ => .stuck
def M.ofO {α : Type} : Option α → M α
  | some a => M.pure a
  | none => M.stuck
/-- a slot's value, from now on shared -/
def mVar (i : Nat) : M D := fun st => match st.env[i]? with
  | some (.sh d) => .ok d st
  | some (.ow c) => .ok c.frz { st with env := st.env.set i (.sh c.frz) }
  | _ => .stuck
def RV.frz : RV → M D
  | .sh d => M.pure d
  | .ow c => M.pure c.frz
  | .lo i => mVar i
def M.frz (m : M RV) : M D := m.bind RV.frz
/-- what is new is shared, the frame's own is left as it is -/
def RV.bor : RV → RV
  | .ow c => .sh c.frz
  | r => r
def M.bor (m : M RV) : M RV := m.bind fun r => M.pure r.bor
/-- what a value looks like now -/
def view (st : State) : RV → Option D
  | .sh (.obj n) => match st.store[n]? with
    | some (.ls ds) => some (.lst ds)
    | some (.dc kvs) => some (.dct kvs)
    | some (.dt kvs) => some (.dcT kvs)
    | some (.ins _ _) => some (.obj n)
    | _ => none
  | .sh d => some d
  | .lo i => match st.env[i]? with
    | some (.sh d) => some d
    | some (.ow c) => some c.frz
    | _ => none
  | .ow _ => none
def M.sh (m : M D) : M RV := m.bind fun d => M.pure (.sh d)
/-- an exception that was caught stands at a -/
def exh (a : Addr) (cls : Value) (d : Option Addr) : HO := .ext fun h => ∃ (oe : Obj) (vs : Array Value), h.get? a = some oe ∧ Zc cls d oe ∧ oe.data = .fields vs
section
variable (K : PySem.W.Frag)
/-! ### what a value is the tree of -/
mutual
inductive Rv (φ : List Addr) (I : Hp) : D → V → Prop
  | non : Rv φ I .non .non
  | bl (b : Bool) : Rv φ I (.bl b) (.bl b)
  | int (i : Int) : Rv φ I (.int i) (.int i)
  | str (s : Str) : Rv φ I (.str s) (.str s)
  | tup {a : Addr} {vs : List V} {ds : List D} : I a = some (.tup vs) → Rvs φ I ds vs → Rv φ I (.tup ds) (.ref a)
  | tpF {a : Addr} {vs : List V} {ds : List D} : SqT K I a vs → Rvs φ I ds vs → Rv φ I (.tpF ds) (.ref a)
  | lst {a : Addr} {vs : List V} {ds : List D} : I a = some (.lst vs) → Rvs φ I ds vs → Rv φ I (.lst ds) (.ref a)
  | lsF {a : Addr} {vs : List V} {ds : List D} : SqL K I a vs → Rvs φ I ds vs → Rv φ I (.lsF ds) (.ref a)
  | dct {a : Addr} {us : List (Key × V)} {kvs : List (Key × D)} {od : Obj} : I a = some (.frz od (.dK us)) → us.map (·.1) = kvs.map (·.1) → Rvs φ I (kvs.map (·.2)) (us.map (·.2)) → Rv φ I (.dct kvs) (.ref a)
  | dcT {a : Addr} {us : List (List Key × V)} {kvs : List (List Key × D)} {od : Obj} : I a = some (.frz od (.dT us)) → us.map (·.1) = kvs.map (·.1) → Rvs φ I (kvs.map (·.2)) (us.map (·.2)) → Rv φ I (.dcT kvs) (.ref a)
  | obj {n : Nat} {a : Addr} : φ[n]? = some a → Rv φ I (.obj n) (.ref a)
  | rcd {C : Str} {a dx : Addr} {us : List (Str × V)} {fs : List (Str × D)} : I a = some (.ins (He.ga K C) dx us) → us.map (·.1) = fs.map (·.1) → Rvs φ I (fs.map (·.2)) (us.map (·.2)) → Rv φ I (.rcd C fs) (.ref a)
  | exn0 {C : Str} {a : Addr} : I a = some (exh a (.ref (He.ga K C)) none) → Rv φ I (.exn0 C) (.ref a)
  | exn {C : Str} {a dx : Addr} {us : List (Str × V)} {fs : List (Str × D)} : I a = some (exh a (.ref (He.ga K C)) (some dx)) → I dx = some (.xd us) → us.map (·.1) = fs.map (·.1) → Rvs φ I (fs.map (·.2)) (us.map (·.2)) → Rv φ I (.exn C fs) (.ref a)
  | cls (C : Str) : Rv φ I (.cls C) (.ref (He.ga K C))
  | val (v : V) : Rv φ I (.val v) v
inductive Rvs (φ : List Addr) (I : Hp) : List D → List V → Prop
  | nil : Rvs φ I [] []
  | cons {d : D} {v : V} {ds : List D} {vs : List V} : Rv φ I d v → Rvs φ I ds vs → Rvs φ I (d :: ds) (v :: vs)
end
/-- H' has all that H has -/
abbrev Ex (H H' : Hp) : Prop := ∀ a o, H a = some o → H' a = some o
/-- a cell's content lies as o -/
inductive Ho (φ : List Addr) (I : Hp) (a : Addr) : Cell → HO → Prop
  | ls {ds : List D} {vs : List V} : Rvs K φ I ds vs → Ho φ I a (.ls ds) (.lst vs)
  | dc {kvs : List (Key × D)} {us : List (Key × V)} : us.map (·.1) = kvs.map (·.1) → Rvs K φ I (kvs.map (·.2)) (us.map (·.2)) → Ho φ I a (.dc kvs) (.dK us)
  | dt {kvs : List (List Key × D)} {us : List (List Key × V)} : us.map (·.1) = kvs.map (·.1) → Rvs K φ I (kvs.map (·.2)) (us.map (·.2)) → Ho φ I a (.dt kvs) (.dT us)
  | ins {C : Str} {dx : Addr} {fs : List (Str × D)} {us : List (Str × V)} : us.map (·.1) = fs.map (·.1) → Rvs K φ I (fs.map (·.2)) (us.map (·.2)) → Ho φ I a (.ins C fs) (.ins (He.ga K C) dx us)
  | tab {q : Str} {ps : Array Value} : TriplesOk ps.toList → (∀ (pos : Pos) (cv : Value), codeAmong pos ps.toList = some cv → ∃ c, cv = .ref c ∧ I c = some (LamX.CodeO c q)) → Ho φ I a (.tab a q) (.tbl ps)
/-- the cell stands at a, and nothing that is shared leans on it -/
def CellAt (φ : List Addr) (I H : Hp) (a : Addr) (c : Cell) : Prop := ∃ o, H a = some o ∧ I a = none ∧ Ho K φ I a c o
end
/-- the heap, the things and what is shared at a def's entry -/
structure Ent where
  H0 : Hp
  p0 : List Addr
  I0 : Hp
  pf : List Addr
  If : Hp
/-- .. at a def's entry; pf, If: the floor, what is known to last from some place in the body on -/
abbrev Ent.at (H : Hp) (φ : List Addr) (I : Hp) : Ent := ⟨H, φ, I, φ, I⟩
/-- what the floor has is still there -/
structure Flo (E : Ent) (φ : List Addr) (I : Hp) : Prop where
  pf : E.pf <+: φ
  fi : Ex E.If I
theorem Flo.ii {E : Ent} {φ : List Addr} {I I' : Hp} (h : Flo E φ I) (e : ∀ a o, I a = some o → I' a = some o) : Flo E φ I' := ⟨h.pf, fun a o q => e a o (h.fi a o q)⟩
theorem Flo.pp {E : Ent} {φ φ' : List Addr} {I : Hp} (h : Flo E φ I) (e : φ <+: φ') : Flo E φ' I := ⟨h.pf.trans e, h.fi⟩
def Owns (env : List Slot) (σ : St) (i : Nat) (a : Addr) : Prop := ∃ c, env[i]? = some (Slot.ow c) ∧ σ[i]? = some (some (.ref a))
structure Rp (K : PySem.W.Frag) (E : Ent) (σ : St) (H : Hp) (st : State) (φ : List Addr) (I : Hp) : Prop where
  ext : Ex I H
  keep : ∀ a o, E.H0 a = some o → a ∉ E.p0 → H a = some o
  there : ∀ a, E.H0 a ≠ none → H a ≠ none
  inew : ∀ a, I a ≠ none → E.I0 a = none → E.H0 a = none ∨ a ∈ E.p0
  iold : Ex E.I0 I
  pre : ∃ more, φ = E.p0 ++ more
  fl : Flo E φ I
  pnew : ∀ a ∈ φ, a ∈ E.p0 ∨ E.H0 a = none
  nd : φ.Nodup
  len : φ.length = st.store.length
  cells : ∀ (i : Nat) c a, st.store[i]? = some c → φ[i]? = some a → c = .dead ∨ CellAt K φ I H a c
  pin : ∀ a ∈ φ, H a ≠ none
  elen : st.env.length = σ.length
  sh : ∀ (i : Nat) d, st.env[i]? = some (.sh d) → ∃ v, σ[i]? = some (some v) ∧ Rv K φ I d v
  ow : ∀ (i : Nat) c, st.env[i]? = some (.ow c) → ∃ a, σ[i]? = some (some (.ref a)) ∧ CellAt K φ I H a c ∧ a ∉ φ ∧ E.H0 a = none
  one : ∀ i j a, Owns st.env σ i a → Owns st.env σ j a → i = j
section
variable {K : PySem.W.Frag} {φ φ' : List Addr} {I I' H H' : Hp}
theorem pre_get {a : Addr} {n : Nat} (hp : φ <+: φ') (h : φ[n]? = some a) : φ'[n]? = some a := by
  obtain ⟨m, rfl⟩ := hp
  have hn : n < φ.length := (List.getElem?_eq_some_iff.mp h).1
  rw [List.getElem?_append_left hn]
  exact h
theorem Ex.refl (H : Hp) : Ex H H := fun _ _ h => h
theorem Ex.trans {A B C : Hp} (h : Ex A B) (k : Ex B C) : Ex A C := fun a o e => k a o (h a o e)
theorem rd_mono {a : Addr} {u : HO} (e : Ex I I') (h : Rd I a u) : Rd I' a u := h.elim (fun z => .inl (e _ _ z)) fun ⟨o, z⟩ => .inr ⟨o, e _ _ z⟩
theorem sqL_mono {a : Addr} {vs : List V} (e : Ex I I') (h : SqL K I a vs) : SqL K I' a vs := h.elim (fun z => .inl (rd_mono e z)) .inr
theorem sqT_mono {a : Addr} {vs : List V} (e : Ex I I') (h : SqT K I a vs) : SqT K I' a vs := h.elim (fun z => .inl (rd_mono e z)) .inr
theorem Rvs.mono' (hp : φ <+: φ') (e : Ex I I') {ds : List D} {vs : List V} (h : Rvs K φ I ds vs) (hm : ∀ d v, d ∈ ds → Rv K φ I d v → Rv K φ' I' d v) : Rvs K φ' I' ds vs := by
  induction ds generalizing vs with
  | nil => cases h; exact .nil
  | cons d ds ih =>
    cases h with
    | cons h1 h2 => exact .cons (hm _ _ (List.mem_cons_self ..) h1) (ih h2 fun d' v' m => hm d' v' (List.mem_cons_of_mem _ m))
theorem Rv.mono (hp : φ <+: φ') (e : Ex I I') {d : D} {v : V} (h : Rv K φ I d v) : Rv K φ' I' d v := by
  refine Rv.rec (motive_1 := fun d v _ => Rv K φ' I' d v) (motive_2 := fun ds vs _ => Rvs K φ' I' ds vs) .non .bl .int .str ?_ ?_ ?_ ?_ ?_ ?_ ?_ ?_ ?_ ?_ .cls .val .nil ?_ h
  · intro a vs ds h1 _ h2
    exact .tup (e _ _ h1) h2
  · intro a vs ds h1 _ h2
    exact .tpF (sqT_mono e h1) h2
  · intro a vs ds h1 _ h2
    exact .lst (e _ _ h1) h2
  · intro a vs ds h1 _ h2
    exact .lsF (sqL_mono e h1) h2
  · intro a us kvs od h1 h3 _ h2
    exact .dct (e _ _ h1) h3 h2
  · intro a us kvs od h1 h3 _ h2
    exact .dcT (e _ _ h1) h3 h2
  · intro n a h1
    exact .obj (pre_get hp h1)
  · intro C a dx us fs h1 h3 _ h2
    exact .rcd (e _ _ h1) h3 h2
  · intro C a h1
    exact .exn0 (e _ _ h1)
  · intro C a dx us fs h1 h2 h4 _ h3
    exact .exn (e _ _ h1) (e _ _ h2) h4 h3
  · intro d v ds vs _ _ h1 h2
    exact .cons h1 h2
theorem Rvs.mono (hp : φ <+: φ') (e : Ex I I') {ds : List D} {vs : List V} (h : Rvs K φ I ds vs) : Rvs K φ' I' ds vs := h.mono' hp e fun _ _ _ z => z.mono hp e
theorem Rvs.len {ds : List D} {vs : List V} (h : Rvs K φ I ds vs) : ds.length = vs.length := by
  induction ds generalizing vs with
  | nil => cases h; rfl
  | cons d ds ih =>
    cases h with
    | cons h1 h2 => rw [List.length_cons, List.length_cons, ih h2]
theorem Rvs.get {ds : List D} {vs : List V} (h : Rvs K φ I ds vs) {i : Nat} {d : D} (e : ds[i]? = some d) : ∃ v, vs[i]? = some v ∧ Rv K φ I d v := by
  induction ds generalizing vs i with
  | nil => simp at e
  | cons d0 ds ih =>
    cases h with
    | cons h1 h2 =>
      cases i with
      | zero =>
        simp only [List.getElem?_cons_zero, Option.some.injEq] at e
        subst e
        exact ⟨_, rfl, h1⟩
      | succ i => exact ih h2 (by simpa using e)
theorem Rvs.append {ds es : List D} {vs us : List V} (h : Rvs K φ I ds vs) (k : Rvs K φ I es us) : Rvs K φ I (ds ++ es) (vs ++ us) := by
  induction ds generalizing vs with
  | nil => cases h; exact k
  | cons d ds ih =>
    cases h with
    | cons h1 h2 => exact .cons h1 (ih h2)
theorem Rvs.take {ds : List D} {vs : List V} (h : Rvs K φ I ds vs) (n : Nat) : Rvs K φ I (ds.take n) (vs.take n) := by
  induction ds generalizing vs n with
  | nil => cases h; simpa using Rvs.nil
  | cons d ds ih =>
    cases h with
    | cons h1 h2 =>
      cases n with
      | zero => exact .nil
      | succ n => exact .cons h1 (ih h2 n)
theorem Rvs.drop {ds : List D} {vs : List V} (h : Rvs K φ I ds vs) (n : Nat) : Rvs K φ I (ds.drop n) (vs.drop n) := by
  induction ds generalizing vs n with
  | nil => cases h; simpa using Rvs.nil
  | cons d ds ih =>
    cases h with
    | cons h1 h2 =>
      cases n with
      | zero => exact .cons h1 h2
      | succ n => exact ih h2 n
theorem Rvs.set {ds : List D} {vs : List V} (h : Rvs K φ I ds vs) (i : Nat) {d : D} {v : V} (r : Rv K φ I d v) : Rvs K φ I (ds.set i d) (vs.set i v) := by
  induction ds generalizing vs i with
  | nil => cases h; exact .nil
  | cons d ds ih =>
    cases h with
    | cons h1 h2 =>
      cases i with
      | zero => exact .cons r h2
      | succ n => exact .cons h1 (ih h2 n)
theorem Ho.mono (hp : φ <+: φ') (e : Ex I I') {a : Addr} {c : Cell} {o : HO} (h : Ho K φ I a c o) : Ho K φ' I' a c o := by
  cases h with
  | ls h => exact .ls (h.mono hp e)
  | dc a h => exact .dc a (h.mono hp e)
  | dt a h => exact .dt a (h.mono hp e)
  | ins a h => exact .ins a (h.mono hp e)
  | tab h1 h2 => exact .tab h1 fun pos cv hc => let ⟨c, e1, e2⟩ := h2 pos cv hc; ⟨c, e1, e _ _ e2⟩
end
/-! ### a step: from (H, st, φ, I) to (H', st', φ', I'), the frame's slots as they were -/
structure Stp (σ : St) (H : Hp) (st : State) (φ : List Addr) (I : Hp) (H' : Hp) (st' : State) (φ' : List Addr) (I' : Hp) : Prop where
  pf : φ <+: φ'
  nf : ∀ a ∈ φ', a ∉ φ → H a = none
  ii : Ex I I'
  fr : ∀ a o, H a = some o → a ∉ φ → (∀ i, ¬ Owns st.env σ i a) → H' a = some o
  there : ∀ a, H a ≠ none → H' a ≠ none
  inf : ∀ a, I' a ≠ none → I a = none → H a = none ∨ a ∈ φ ∨ ∃ i, Owns st.env σ i a
  ow : ∀ i a, Owns st'.env σ i a → Owns st.env σ i a
theorem Stp.refl {σ : St} {H : Hp} {st : State} {φ : List Addr} {I : Hp} : Stp σ H st φ I H st φ I :=
  ⟨List.prefix_rfl, fun _ h n => absurd h n, Ex.refl _, fun _ _ e _ _ => e, fun _ h => h, fun a h n => absurd n h, fun _ _ h => h⟩
theorem Stp.trans {σ : St} {H H1 H2 : Hp} {st st1 st2 : State} {φ p1 p2 : List Addr} {I I1 I2 : Hp} (a : Stp σ H st φ I H1 st1 p1 I1) (b : Stp σ H1 st1 p1 I1 H2 st2 p2 I2) : Stp σ H st φ I H2 st2 p2 I2 where
  pf := a.pf.trans b.pf
  nf := fun x hx hn => by
    by_cases h : x ∈ p1
    · exact a.nf x h hn
    · cases q : H x with
      | none => rfl
      | some o => exact absurd (b.nf x hx h) (a.there x (by rw [q]; simp))
  ii := a.ii.trans b.ii
  fr := fun x o e hn ho => by
    refine b.fr x o (a.fr x o e hn ho) (fun h => ?_) fun i h => ho i (a.ow i x h)
    have := a.nf x h hn
    rw [e] at this
    cases this
  there := fun x h => b.there x (a.there x h)
  inf := fun x h hn => by
    cases q : I1 x with
    | some o => exact a.inf x (by rw [q]; simp) hn
    | none =>
      rcases b.inf x h q with z | z | ⟨i, z⟩
      · left
        cases q : H x with
        | none => rfl
        | some o => exact absurd z (a.there x (by rw [q]; simp))
      · by_cases hm : x ∈ φ
        · exact .inr (.inl hm)
        · exact .inl (a.nf x z hm)
      · exact .inr (.inr ⟨i, a.ow i x z⟩)
  ow := fun i x h => a.ow i x (b.ow i x h)
/-- a run's value lies as v -/
def Rr (K : PySem.W.Frag) (E : Ent) (σ : St) (H : Hp) (st : State) (φ : List Addr) (I : Hp) : RV → V → Prop
  | .sh d, v => Rv K φ I d v
  | .ow c, v => ∃ a, v = .ref a ∧ CellAt K φ I H a c ∧ a ∉ φ ∧ E.H0 a = none ∧ ∀ i, ¬ Owns st.env σ i a
  | .lo i, v => σ[i]? = some (some v)
/-- a value as it stands now: shared, or a thing with its content -/
def Seen (K : PySem.W.Frag) (φ : List Addr) (I H : Hp) (d : D) (v : V) : Prop := Rv K φ I d v ∨ ∃ a c, v = .ref a ∧ d = c.frz ∧ CellAt K φ I H a c
/-- an exception's fields -/
def Rx (K : PySem.W.Frag) (E : Ent) (φ : List Addr) (I H : Hp) : Option (List (Str × D)) → Option Addr → Prop
  | none, d => d = none
  | some fs, d => ∃ a us, d = some a ∧ E.H0 a = none ∧ H a = some (.xd us) ∧ us.map (·.1) = fs.map (·.1) ∧ Rvs K φ I (fs.map (·.2)) (us.map (·.2))
/-- a new thing, or the frame's own -/
def Nw (σ : L2.St) (H : Hp) (st : State) (r : RV) (v : V) : Prop := ∀ a c, r = .ow c → v = .ref a → H a = none
/-- what is wanted behind a run -/
def Po {α : Type} (K : PySem.W.Frag) (E : Ent) (W : WX) (σ : L2.St) (o : Out α) (H : Hp) (st : State) (φ : List Addr) (I : Hp) (k : α → Hp → State → List Addr → Hp → Prop) : Prop := match o with
  | .ok a st' => ∀ H' φ' I', Stp σ H st φ I H' st' φ' I' → Rp K E σ H' st' φ' I' → k a H' st' φ' I'
  | .exc c st' => ∀ d H' φ' I', Stp σ H st φ I H' st' φ' I' → Rp K E σ H' st' φ' I' → Rx K E φ' I' H' c.fs d → W (c.cls.val K) d σ H'
  | .stuck => False
/-- what a run tells of an expression, of a test, of arguments -/
def rdR (K : PySem.W.Frag) (E : Ent) (W : WX) (m : M RV) : TE := fun σ H Q => ∃ st φ I, Rp K E σ H st φ I ∧ Po K E W σ (m st) H st φ I fun r H' st' φ' I' => ∀ v, Rr K E σ H' st' φ' I' r v → Nw σ H st r v → Q v H'
def rdE (K : PySem.W.Frag) (E : Ent) (W : WX) (m : M D) : TE := fun σ H Q => ∃ st φ I, Rp K E σ H st φ I ∧ Po K E W σ (m st) H st φ I fun r H' st' φ' I' => ∀ v, Rv K φ' I' r v → Q v H'
def rdT (K : PySem.W.Frag) (E : Ent) (W : WX) (m : M Bool) : TT := fun σ H Q => ∃ st φ I, Rp K E σ H st φ I ∧ Po K E W σ (m st) H st φ I fun r H' st' φ' I' => Q r H'
def rdA (K : PySem.W.Frag) (E : Ent) (W : WX) (m : M (List D)) : TA := fun σ H Q => ∃ st φ I, Rp K E σ H st φ I ∧ Po K E W σ (m st) H st φ I fun r H' st' φ' I' => ∀ vs, Rvs K φ' I' r vs → Q vs H'
abbrev SR (X : Cx) (E : Ent) (W : WX) (e : Expr) (m : M RV) : Prop := PE X e (rdR X.K E W m)
abbrev SE (X : Cx) (E : Ent) (W : WX) (e : Expr) (m : M D) : Prop := PE X e (rdE X.K E W m)
abbrev ST (X : Cx) (E : Ent) (W : WX) (e : Expr) (m : M Bool) : Prop := PT X e (rdT X.K E W m)
abbrev SW (X : Cx) (E : Ent) (W : WX) (e : Expr) (m : M Bool) : Prop := PW X e (rdT X.K E W m)
abbrev SA (X : Cx) (E : Ent) (W : WX) (es : List Expr) (m : M (List D)) : Prop := PA X es (rdA X.K E W m)
inductive SOut where
  | nx (st : State) | rt (r : RV) (st : State) | bk (st : State) | ct (st : State) | exc (c : Exc) (st : State) | stuck
def MS := State → SOut
/-- the things and what is shared have grown -/
structure Grow (φ : List Addr) (I : Hp) (φ' : List Addr) (I' : Hp) : Prop where
  pf : φ <+: φ'
  ii : Ex I I'
def Ps (K : PySem.W.Frag) (E : Ent) (W : WX) (φ : List Addr) (I : Hp) (D : Ends) : SOut → Prop
  | .nx st' => ∀ σ' H' φ' I', Grow φ I φ' I' → Rp K E σ' H' st' φ' I' → D.nx σ' H'
  | .bk st' => ∀ σ' H' φ' I', Grow φ I φ' I' → Rp K E σ' H' st' φ' I' → D.bk σ' H'
  | .ct st' => ∀ σ' H' φ' I', Grow φ I φ' I' → Rp K E σ' H' st' φ' I' → D.ct σ' H'
  | .rt r st' => ∀ v σ' H' φ' I', Grow φ I φ' I' → Rp K E σ' H' st' φ' I' → Rr K E σ' H' st' φ' I' r v → D.rt v H'
  | .exc c st' => ∀ d σ' H' φ' I', Grow φ I φ' I' → Rp K E σ' H' st' φ' I' → Rx K E φ' I' H' c.fs d → W (c.cls.val K) d σ' H'
  | .stuck => False
def rdS (K : PySem.W.Frag) (E : Ent) (W : WX) (m : MS) : TS := fun D σ H => ∃ st φ I, Rp K E σ H st φ I ∧ Ps K E W φ I D (m st)
abbrev SS (X : Cx) (E : Ent) (W : WX) (st : Stmt) (m : MS) : Prop := PS X st (rdS X.K E W m)
abbrev SSs (X : Cx) (E : Ent) (W : WX) (st : List Stmt) (m : MS) : Prop := PSs X st (rdS X.K E W m)
end PM
set_option Elab.async false
set_option linter.all false
set_option maxRecDepth 100000
set_option maxHeartbeats 1200000
namespace PM
open PySem PySem.Spec L2
/-! ### weaker readings -/
section
variable {X : Cx}
theorem PEi {e : Expr} {t t' : TE} (h : PE X e t) (k : ∀ σ H Q, t' σ H Q → t σ H Q) : PE X e t' := ⟨fun p s σ H Q I q => h.run p s σ H Q I (k _ _ _ q)⟩
theorem PTi {e : Expr} {t t' : TT} (h : PT X e t) (k : ∀ σ H Q, t' σ H Q → t σ H Q) : PT X e t' := ⟨fun p s σ H Q I q => h.run p s σ H Q I (k _ _ _ q)⟩
theorem PWi {e : Expr} {t t' : TT} (h : PW X e t) (k : ∀ σ H Q, t' σ H Q → t σ H Q) : PW X e t' := ⟨fun w p s σ H Q I q => h.run w p s σ H Q I (k _ _ _ q)⟩
theorem PAi {e : List Expr} {t t' : TA} (h : PA X e t) (k : ∀ σ H Q, t' σ H Q → t σ H Q) : PA X e t' := ⟨fun pos p s σ H Q I q => h.run pos p s σ H Q I (k _ _ _ q)⟩
theorem PSi {e : Stmt} {t t' : TS} (h : PS X e t) (k : ∀ D σ H, t' D σ H → t D σ H) : PS X e t' := ⟨fun p s σ H Q I q => h.run p s σ H Q I (k _ _ _ q)⟩
theorem PSsi {e : List Stmt} {t t' : TS} (h : PSs X e t) (k : ∀ D σ H, t' D σ H → t D σ H) : PSs X e t' := ⟨fun p s σ H Q I q => h.run p s σ H Q I (k _ _ _ q)⟩
end
section
variable {K : PySem.W.Frag} {E : Ent} {σ : L2.St} {H : Hp} {st : State} {φ : List Addr} {I : Hp}
theorem ex_upd {J : Hp} {a : Addr} {o : HO} (h : J a = none) : Ex J (upd J a o) := fun b u e => by
  rw [upd_ne (ne_of_none e h)]
  exact e
theorem ex_upd2 {J J' : Hp} {a : Addr} {o : HO} (e : Ex J J') : Ex (upd J a o) (upd J' a o) := fun b u q => by
  by_cases hb : b = a
  · subst hb
    rw [upd_same] at q ⊢
    exact q
  · rw [upd_ne hb] at q ⊢
    exact e b u q
theorem Rp.fresh (R : Rp K E σ H st φ I) {p : Addr} (hp : H p = none) : E.H0 p = none ∧ p ∉ φ ∧ I p = none ∧ ∀ i, ¬ Owns st.env σ i p := by
  refine ⟨?_, fun h => R.pin p h hp, ?_, ?_⟩
  · cases q : E.H0 p with
    | none => rfl
    | some o => exact absurd hp (R.there p (by rw [q]; simp))
  · cases q : I p with
    | none => rfl
    | some o =>
      have := R.ext p o q
      rw [hp] at this
      cases this
  · rintro i ⟨c, h1, h2⟩
    obtain ⟨a, h3, ⟨o, h4, _⟩, _⟩ := R.ow i c h1
    rw [h2] at h3
    cases h3
    rw [hp] at h4
    cases h4
theorem CellAt.mono {I' H' : Hp} {φ' : List Addr} {a : Addr} {c : Cell} (h : CellAt K φ I H a c) (hp : φ <+: φ') (e : Ex I I') (hn : I' a = none) (hH : ∀ o, H a = some o → H' a = some o) : CellAt K φ' I' H' a c := by
  obtain ⟨o, h1, _, h3⟩ := h
  exact ⟨o, hH o h1, hn, h3.mono hp e⟩
/-- a new thing p is laid; it is shared -/
theorem Rp.laidS (R : Rp K E σ H st φ I) {p : Addr} (hp : H p = none) (o : HO) : Rp K E σ (upd H p o) st φ (upd I p o) ∧ Stp σ H st φ I (upd H p o) st φ (upd I p o) := by
  obtain ⟨h0, hφ, hI, ho⟩ := R.fresh hp
  have eH : Ex H (upd H p o) := ex_upd hp
  have eI : Ex I (upd I p o) := ex_upd hI
  refine ⟨⟨ex_upd2 R.ext, fun a u e n => eH _ _ (R.keep a u e n), fun a h => ?_, fun a h n => ?_, fun a u e => eI _ _ (R.iold a u e), R.pre, R.fl.ii eI, R.pnew, R.nd, R.len, fun i c a h1 h2 => ?_, fun a h => ?_, R.elen, fun i d h => ?_, fun i c h => ?_, R.one⟩, ?_⟩
  · by_cases hb : a = p
    · rw [hb, upd_same]; simp
    · rw [upd_ne hb]; exact R.there a h
  · by_cases hb : a = p
    · rw [hb]; exact .inl h0
    · rw [upd_ne hb] at h; exact R.inew a h n
  · rcases R.cells i c a h1 h2 with z | z
    · exact .inl z
    · have hb : a ≠ p := fun e => hφ (e ▸ List.mem_of_getElem? h2)
      refine .inr (z.mono List.prefix_rfl eI ?_ fun u e => eH _ _ e)
      rw [upd_ne hb]; exact z.choose_spec.2.1
  · by_cases hb : a = p
    · rw [hb, upd_same]; simp
    · rw [upd_ne hb]; exact R.pin a h
  · obtain ⟨v, h1, h2⟩ := R.sh i d h
    exact ⟨v, h1, h2.mono List.prefix_rfl eI⟩
  · obtain ⟨a, h1, h2, h3, h4⟩ := R.ow i c h
    have hb : a ≠ p := fun e => ho i ⟨c, h, e ▸ h1⟩
    refine ⟨a, h1, h2.mono List.prefix_rfl eI ?_ fun u e => eH _ _ e, h3, h4⟩
    rw [upd_ne hb]; exact h2.choose_spec.2.1
  · refine ⟨List.prefix_rfl, fun _ h n => absurd h n, eI, fun a u e _ _ => eH _ _ e, fun a h => ?_, fun a h n => ?_, fun _ _ h => h⟩
    · by_cases hb : a = p
      · rw [hb, upd_same]; simp
      · rw [upd_ne hb]; exact h
    · by_cases hb : a = p
      · rw [hb]; exact .inl hp
      · rw [upd_ne hb] at h; exact absurd n h
/-- a new thing p is laid; nobody shares it -/
theorem Rp.laidO (R : Rp K E σ H st φ I) {p : Addr} (hp : H p = none) (o : HO) : Rp K E σ (upd H p o) st φ I ∧ Stp σ H st φ I (upd H p o) st φ I := by
  obtain ⟨h0, hφ, hI, ho⟩ := R.fresh hp
  have eH : Ex H (upd H p o) := ex_upd hp
  refine ⟨⟨R.ext.trans eH, fun a u e n => eH _ _ (R.keep a u e n), fun a h => ?_, R.inew, R.iold, R.pre, R.fl, R.pnew, R.nd, R.len, fun i c a h1 h2 => ?_, fun a h => ?_, R.elen, R.sh, fun i c h => ?_, R.one⟩, ?_⟩
  · by_cases hb : a = p
    · rw [hb, upd_same]; simp
    · rw [upd_ne hb]; exact R.there a h
  · rcases R.cells i c a h1 h2 with z | z
    · exact .inl z
    · exact .inr (z.mono List.prefix_rfl (Ex.refl _) z.choose_spec.2.1 fun u e => eH _ _ e)
  · by_cases hb : a = p
    · rw [hb, upd_same]; simp
    · rw [upd_ne hb]; exact R.pin a h
  · obtain ⟨a, h1, h2, h3, h4⟩ := R.ow i c h
    exact ⟨a, h1, h2.mono List.prefix_rfl (Ex.refl _) h2.choose_spec.2.1 fun u e => eH _ _ e, h3, h4⟩
  · refine ⟨List.prefix_rfl, fun _ h n => absurd h n, Ex.refl _, fun a u e _ _ => eH _ _ e, fun a h => ?_, fun a h n => absurd n h, fun _ _ h => h⟩
    by_cases hb : a = p
    · rw [hb, upd_same]; simp
    · rw [upd_ne hb]; exact h
/-- a dict that is shared stands still from then on -/
def lk (od : Obj) : HO → HO
  | .dK us => .frz od (.dK us)
  | .dT us => .frz od (.dT us)
  | o => o
theorem upd_self {H : Hp} {a : Addr} {o : HO} (h : H a = some o) : upd H a o = H := by
  funext b
  by_cases hb : b = a
  · rw [hb, upd_same, h]
  · exact upd_ne hb
theorem Ho.frz {a : Addr} {c : Cell} {o : HO} {od : Obj} (h : Ho K φ I a c o) (e : I a = some (lk od o)) : Rv K φ I c.frz (.ref a) := by
  cases h with
  | ls h => exact .lst e h
  | dc k h => exact .dct e k h
  | dt k h => exact .dcT e k h
  | ins k h => exact .rcd e k h
  | tab _ _ => exact .val _
/-- what is nobody's becomes shared -/
theorem Rp.share (R : Rp K E σ H st φ I) {a : Addr} {c : Cell} {o : HO} (od : Obj) (e1 : H a = some o) (e2 : I a = none) (e3 : Ho K φ I a c o) (hφ : a ∉ φ) (h0 : E.H0 a = none) (ho : ∀ i, ¬ Owns st.env σ i a) :
    ∃ I', Rp K E σ (upd H a (lk od o)) st φ I' ∧ Ex I I' ∧ Rv K φ I' c.frz (.ref a) ∧ ∀ b, b ≠ a → I' b = I b := by
  have eI : Ex I (upd I a (lk od o)) := ex_upd e2
  have U : ∀ b, b ≠ a → upd H a (lk od o) b = H b := fun b hb => upd_ne hb
  have nI : ∀ b u, I b = some u → b ≠ a := fun b u q z => by rw [z, e2] at q; cases q
  have n0 : ∀ b u, E.H0 b = some u → b ≠ a := fun b u q z => by rw [z, h0] at q; cases q
  refine ⟨upd I a (lk od o), ⟨fun b u e => ?_, fun b u q n => by rw [U b (n0 b u q)]; exact R.keep b u q n, fun b q => ?_, fun b h n => ?_, fun b u e => eI _ _ (R.iold b u e), R.pre, R.fl.ii eI, R.pnew, R.nd, R.len, fun i c' b h1 h2 => ?_, fun b hb => ?_, R.elen, fun i d h => ?_, fun i c' h => ?_, R.one⟩, eI, ?_, fun b hb => upd_ne hb⟩
  · by_cases hb : b = a
    · subst hb
      rw [upd_same] at e ⊢
      exact e
    · rw [upd_ne hb] at e ⊢; exact R.ext b u e
  · by_cases hb : b = a
    · rw [hb, upd_same]; simp
    · rw [U b hb]; exact R.there b q
  · by_cases hb : b = a
    · rw [hb]; exact .inl h0
    · rw [upd_ne hb] at h; exact R.inew b h n
  · rcases R.cells i c' b h1 h2 with z | z
    · exact .inl z
    · have hb : b ≠ a := fun e => hφ (e ▸ List.mem_of_getElem? h2)
      obtain ⟨u, z1, z2, z3⟩ := z
      exact .inr ⟨u, by rw [U b hb]; exact z1, by rw [upd_ne hb]; exact z2, z3.mono List.prefix_rfl eI⟩
  · rw [U b (fun e => hφ (e ▸ hb))]; exact R.pin b hb
  · obtain ⟨v, h1, h2⟩ := R.sh i d h
    exact ⟨v, h1, h2.mono List.prefix_rfl eI⟩
  · obtain ⟨b, h1, ⟨u, z1, z2, z3⟩, h3, h4⟩ := R.ow i c' h
    have hb : b ≠ a := fun e => ho i ⟨c', h, e ▸ h1⟩
    exact ⟨b, h1, ⟨u, by rw [U b hb]; exact z1, by rw [upd_ne hb]; exact z2, z3.mono List.prefix_rfl eI⟩, h3, h4⟩
  · exact (e3.mono List.prefix_rfl eI).frz (od := od) (by rw [upd_same])
/-- where a wish may look from, the view changed at will -/
def Gh (H : Hp) (v : V) (Q : V → Hp → Prop) : Prop := Q v H ∨ ∃ a o, v = .ref a ∧ H a = some o ∧ Mut (some o) ∧ ∀ od, Q v (upd H a (.frz od o))
theorem gh_of {H : Hp} {a : Addr} {c : Cell} {o : HO} {Q : V → Hp → Prop} (h : H a = some o) (hc : Ho K φ I a c o) (q : ∀ od, Q (.ref a) (upd H a (lk od o))) : Gh H (.ref a) Q := by
  cases hc with
  | ls _ => exact .inl (by have := q default; rwa [show lk default (.lst _) = .lst _ from rfl, upd_self h] at this)
  | dc _ _ => exact .inr ⟨a, _, rfl, h, True.intro, fun od => q od⟩
  | dt _ _ => exact .inr ⟨a, _, rfl, h, True.intro, fun od => q od⟩
  | ins _ _ => exact .inl (by have := q default; rwa [show lk default (.ins _ _ _) = .ins _ _ _ from rfl, upd_self h] at this)
  | tab _ _ => exact .inl (by have := q default; rwa [show lk default (.tbl _) = .tbl _ from rfl, upd_self h] at this)
theorem pe_gh {X : Cx} {e : Expr} {t : TE} (h : PE X e t) : PE X e (fun σ H Q => t σ H fun v H1 => Gh H1 v Q) := ⟨fun pins s σ H Q I hh => thn (h.run pins s σ H _ I hh) fun u s1 ⟨v, H1, I1, r, q⟩ => by
  rcases q with q | ⟨a, o, rfl, h1, mu, q⟩
  · exact ⟨v, H1, I1, r, q⟩
  · obtain ⟨od, I2⟩ := I1.lock h1 mu
    exact ⟨.ref a, _, I2, r, q od⟩⟩
/-- a run's value, shared -/
theorem Rp.shareR (R : Rp K E σ H st φ I) {H0 I0 : Hp} {st0 : State} {p0 : List Addr} (S : Stp σ H0 st0 p0 I0 H st φ I) {c : Cell} {v : V} (h : Rr K E σ H st φ I (.ow c) v) (hf : Nw σ H0 st0 (.ow c) v) {Q : V → Hp → Prop}
    (hq : ∀ H' I', Rp K E σ H' st φ I' → Stp σ H0 st0 p0 I0 H' st φ I' → Rv K φ I' c.frz v → Q v H') : Gh H v Q := by
  · obtain ⟨a, rfl, ⟨o, z1, z2, z3⟩, h2, h3, h4⟩ := h
    refine gh_of z1 z3 fun od => ?_
    obtain ⟨I', R', e, hv, hb⟩ := R.share od z1 z2 z3 h2 h3 h4
    have na : H0 a = none := hf a c rfl rfl
    refine hq _ I' R' ⟨S.pf, S.nf, S.ii.trans e, fun b u q n no => ?_, fun b q => ?_, fun b h n => ?_, S.ow⟩ hv
    · rw [upd_ne (fun z => by rw [z, na] at q; cases q)]
      exact S.fr b u q n no
    · rw [upd_ne (fun z => q (by rw [z]; exact na))]
      exact S.there b q
    · by_cases q : b = a
      · subst q
        exact .inl na
      · rw [hb b q] at h
        exact S.inf b h n
/-- a slot of the frame's own becomes shared -/
theorem Rp.frzSlot (R : Rp K E σ H st φ I) {i : Nat} {c : Cell} (h : st.env[i]? = some (.ow c)) :
    ∃ v, σ[i]? = some (some v) ∧ ∀ {Q : V → Hp → Prop}, (∀ H' I', Rp K E σ H' { st with env := st.env.set i (.sh c.frz) } φ I' → Stp σ H st φ I H' { st with env := st.env.set i (.sh c.frz) } φ I' → Rv K φ I' c.frz v → Q v H') → Gh H v Q := by
  obtain ⟨a, h1, ⟨o, z1, z2, z3⟩, h3, h4⟩ := R.ow i c h
  have hi : i < st.env.length := (List.getElem?_eq_some_iff.mp h).1
  have sub : ∀ j b, Owns (st.env.set i (.sh c.frz)) σ j b → Owns st.env σ j b ∧ j ≠ i := by
    rintro j b ⟨c', q1, q2⟩
    have hj : j ≠ i := by
      intro e
      subst e
      rw [List.getElem?_set_self hi] at q1
      cases q1
    rw [List.getElem?_set_ne (Ne.symm hj)] at q1
    exact ⟨⟨c', q1, q2⟩, hj⟩
  have R1 : Rp K E σ H { st with env := st.env.set i .un } φ I := ⟨R.ext, R.keep, R.there, R.inew, R.iold, R.pre, R.fl, R.pnew, R.nd, R.len, R.cells, R.pin, by
      show (st.env.set i .un).length = _
      rw [List.length_set]
      exact R.elen, fun j d q => by
      by_cases hj : j = i
      · subst hj
        rw [show ({ st with env := st.env.set j .un } : State).env[j]? = some .un from List.getElem?_set_self hi] at q
        cases q
      · exact R.sh j d (by rw [← q]; exact (List.getElem?_set_ne (Ne.symm hj)).symm), fun j d q => by
      by_cases hj : j = i
      · subst hj
        rw [show ({ st with env := st.env.set j .un } : State).env[j]? = some .un from List.getElem?_set_self hi] at q
        cases q
      · exact R.ow j d (by rw [← q]; exact (List.getElem?_set_ne (Ne.symm hj)).symm), fun j k b q1 q2 => by
      have up : ∀ j b, Owns (st.env.set i .un) σ j b → Owns st.env σ j b := by
        rintro j b ⟨c', q1, q2⟩
        have hj : j ≠ i := by
          intro e
          subst e
          rw [List.getElem?_set_self hi] at q1
          cases q1
        rw [List.getElem?_set_ne (Ne.symm hj)] at q1
        exact ⟨c', q1, q2⟩
      exact R.one j k b (up _ _ q1) (up _ _ q2)⟩
  have no : ∀ j, ¬ Owns (st.env.set i .un) σ j a := by
    rintro j ⟨c', q1, q2⟩
    have hj : j ≠ i := by
      intro e
      subst e
      rw [List.getElem?_set_self hi] at q1
      cases q1
    rw [List.getElem?_set_ne (Ne.symm hj)] at q1
    exact hj (R.one j i a ⟨c', q1, q2⟩ ⟨c, h, h1⟩)
  refine ⟨.ref a, h1, fun {Q} hq => gh_of z1 z3 fun od => ?_⟩
  obtain ⟨I', R2, e, hv, hb⟩ := R1.share od z1 z2 z3 h3 h4 no
  refine hq _ I' ⟨R2.ext, R2.keep, R2.there, R2.inew, R2.iold, R2.pre, R2.fl, R2.pnew, R2.nd, R2.len, R2.cells, R2.pin, by
      show (st.env.set i _).length = _
      rw [List.length_set]
      exact R.elen, fun j d q => ?_, fun j d q => ?_, fun j k b q1 q2 => R.one j k b (sub _ _ q1).1 (sub _ _ q2).1⟩ ⟨List.prefix_rfl, fun _ h n => absurd h n, e, fun b u z _ m => by rw [upd_ne (fun y => m i ⟨c, h, by rw [y]; exact h1⟩)]; exact z, fun b z => by
        by_cases hb2 : b = a
        · rw [hb2, upd_same]; simp
        · rw [upd_ne hb2]; exact z, fun b z n => ?_, fun j b q => (sub j b q).1⟩ hv
  · by_cases hj : j = i
    · subst hj
      rw [show ({ st with env := st.env.set j (.sh c.frz) } : State).env[j]? = some (.sh c.frz) from List.getElem?_set_self hi] at q
      cases q
      exact ⟨_, h1, hv⟩
    · exact R2.sh j d (by rw [← q]; exact (List.getElem?_set_ne (Ne.symm hj)).trans (List.getElem?_set_ne (Ne.symm hj)).symm)
  · by_cases hj : j = i
    · subst hj
      rw [show ({ st with env := st.env.set j (.sh c.frz) } : State).env[j]? = some (.sh c.frz) from List.getElem?_set_self hi] at q
      cases q
    · exact R2.ow j d (by rw [← q]; exact (List.getElem?_set_ne (Ne.symm hj)).trans (List.getElem?_set_ne (Ne.symm hj)).symm)
  · by_cases hb' : b = a
    · subst hb'
      exact .inr (.inr ⟨i, c, h, h1⟩)
    · rw [hb b hb'] at z
      exact absurd n z
def RV.slot : RV → Slot
  | .sh d => .sh d
  | .ow c => .ow c
  | .lo _ => .un
/-- a name gets a value -/
theorem Rp.setR (R : Rp K E σ H st φ I) {i : Nat} {r : RV} {v : V} (hr : Rr K E σ H st φ I r v) : Rp K E (σ.set i (some v)) H { st with env := st.env.set i r.slot } φ I := by
  have up : ∀ j b, Owns (st.env.set i r.slot) (σ.set i (some v)) j b → j ≠ i → Owns st.env σ j b := by
    rintro j b ⟨c', q1, q2⟩ hj
    rw [List.getElem?_set_ne (Ne.symm hj)] at q1 q2
    exact ⟨c', q1, q2⟩
  have self : ∀ b, Owns (st.env.set i r.slot) (σ.set i (some v)) i b → v = .ref b ∧ ∃ c, r = .ow c := by
    rintro b ⟨c', q1, q2⟩
    have hi : i < st.env.length := by
      have := (List.getElem?_eq_some_iff.mp q1).1
      rwa [List.length_set] at this
    rw [List.getElem?_set_self hi] at q1
    rw [List.getElem?_set_self (by rw [← R.elen]; exact hi)] at q2
    refine ⟨by simpa using q2, ?_⟩
    cases r with
    | sh d => cases q1
    | ow c => exact ⟨c, rfl⟩
    | lo i => cases q1
  have own : ∀ a c, r = .ow c → v = .ref a → ∀ j, ¬ Owns st.env σ j a := by
    rintro a c rfl rfl
    obtain ⟨a', e, _, _, _, h⟩ := hr
    cases e
    exact h
  refine ⟨R.ext, R.keep, R.there, R.inew, R.iold, R.pre, R.fl, R.pnew, R.nd, R.len, R.cells, R.pin, ?_, fun j d q => ?_, fun j d q => ?_, fun j k b q1 q2 => ?_⟩
  · show (st.env.set i _).length = _
    rw [List.length_set, List.length_set]
    exact R.elen
  · replace q : (st.env.set i r.slot)[j]? = some (Slot.sh d) := q
    by_cases hj : j = i
    · subst hj
      have hi : j < st.env.length := by
        have := (List.getElem?_eq_some_iff.mp q).1
        rwa [List.length_set] at this
      rw [List.getElem?_set_self hi] at q
      cases r with
      | sh d' =>
        cases q
        exact ⟨v, List.getElem?_set_self (by rw [← R.elen]; exact hi), hr⟩
      | ow c => cases q
      | lo i => cases q
    · rw [List.getElem?_set_ne (Ne.symm hj)] at q ⊢
      exact R.sh j d q
  · replace q : (st.env.set i r.slot)[j]? = some (Slot.ow d) := q
    by_cases hj : j = i
    · subst hj
      have hi : j < st.env.length := by
        have := (List.getElem?_eq_some_iff.mp q).1
        rwa [List.length_set] at this
      rw [List.getElem?_set_self hi] at q
      cases r with
      | sh d' => cases q
      | lo i => cases q
      | ow c =>
        cases q
        obtain ⟨a, rfl, h1, h2, h3, _⟩ := hr
        exact ⟨a, List.getElem?_set_self (by rw [← R.elen]; exact hi), h1, h2, h3⟩
    · rw [List.getElem?_set_ne (Ne.symm hj)] at q ⊢
      exact R.ow j d q
  · by_cases hj : j = i
    · subst hj
      by_cases hk : k = j
      · exact hk.symm
      · obtain ⟨e1, c, e2⟩ := self b q1
        exact absurd (up k b q2 hk) (own b c e2 e1 k)
    · by_cases hk : k = i
      · subst hk
        obtain ⟨e1, c, e2⟩ := self b q2
        exact absurd (up j b q1 hj) (own b c e2 e1 j)
      · exact R.one j k b (up j b q1 hj) (up k b q2 hk)
end
/-! ### one run behind another -/
section
variable {K : PySem.W.Frag} {E : Ent} {W : WX} {σ : L2.St} {H : Hp} {st : State} {φ : List Addr} {I : Hp} {α β : Type}
theorem Po.imp {o : Out α} {k k' : α → Hp → State → List Addr → Hp → Prop} (h : Po K E W σ o H st φ I k) (hk : ∀ a H' st' φ' I', Stp σ H st φ I H' st' φ' I' → Rp K E σ H' st' φ' I' → k a H' st' φ' I' → k' a H' st' φ' I') : Po K E W σ o H st φ I k' := by
  cases o with
  | ok a st' => exact fun H' φ' I' S R => hk _ _ _ _ _ S R (h H' φ' I' S R)
  | exc c st' => exact h
  | stuck => exact h
theorem Po.bind {m : M α} {f : α → M β} {k : β → Hp → State → List Addr → Hp → Prop} (h : Po K E W σ (m.bind f st) H st φ I k) :
    Po K E W σ (m st) H st φ I fun a H1 st1 φ1 I1 => Po K E W σ (f a st1) H1 st1 φ1 I1 k := by
  unfold M.bind at h
  cases e : m st with
  | ok a st1 =>
    rw [e] at h
    simp only at h
    intro H1 φ1 I1 S1 R1
    cases e2 : f a st1 with
    | ok b st2 =>
      rw [e2] at h
      exact fun H2 φ2 I2 S2 R2 => h H2 φ2 I2 (S1.trans S2) R2
    | exc c st2 =>
      rw [e2] at h
      exact fun d H2 φ2 I2 S2 R2 => h d H2 φ2 I2 (S1.trans S2) R2
    | stuck => rw [e2] at h; exact h
  | exc c st1 => rw [e] at h; exact h
  | stuck => rw [e] at h; exact h
theorem Po.pure {a : α} {k : α → Hp → State → List Addr → Hp → Prop} (h : Po K E W σ (M.pure a st) H st φ I k) (R : Rp K E σ H st φ I) : k a H st φ I := h H φ I Stp.refl R
theorem Po.ofO {o : Option α} {k : α → Hp → State → List Addr → Hp → Prop} (h : Po K E W σ (M.ofO o st) H st φ I k) : ∃ a, o = some a ∧ ∀ H' φ' I', Stp σ H st φ I H' st φ' I' → Rp K E σ H' st φ' I' → k a H' st φ' I' := by
  cases o with
  | none => exact h.elim
  | some a => exact ⟨a, rfl, h⟩
theorem Nw.back {H1 : Hp} {st1 : State} {φ1 : List Addr} {I1 : Hp} {r : RV} {v : V} (S : Stp σ H st φ I H1 st1 φ1 I1) (h : Nw σ H1 st1 r v) : Nw σ H st r v := fun a c e1 e2 => by
  have z := h a c e1 e2
  cases q : H a with
  | none => rfl
  | some o => exact absurd z (S.there a (by rw [q]; simp))
theorem Nw.sh {d : D} {v : V} : Nw σ H st (.sh d) v := fun _ _ e => by cases e
end
/-- a slot's value, shared -/
theorem Rp.var {K : PySem.W.Frag} {E : Ent} {W : WX} {σ : L2.St} {H : Hp} {st : State} {φ : List Addr} {I : Hp} (R : Rp K E σ H st φ I) {i : Nat} {k : D → Hp → State → List Addr → Hp → Prop} (p : Po K E W σ (mVar i st) H st φ I k) :
    ∃ v, σ[i]? = some (some v) ∧ ∀ {Q : V → Hp → Prop}, (∀ d H' st' I', Stp σ H st φ I H' st' φ I' → Rp K E σ H' st' φ I' → Rv K φ I' d v → k d H' st' φ I' → Q v H') → Gh H v Q := by
  unfold mVar at p
  cases e : st.env[i]? with
  | none => rw [e] at p; exact p.elim
  | some s =>
    rw [e] at p
    cases s with
    | un => exact p.elim
    | sh d =>
      obtain ⟨v, h1, h2⟩ := R.sh i d e
      exact ⟨v, h1, fun q => .inl (q d H st I Stp.refl R h2 (p H φ I Stp.refl R))⟩
    | ow c =>
      obtain ⟨v, h1, g⟩ := R.frzSlot e
      exact ⟨v, h1, fun q => g fun H' I' R' S' hv => q _ H' _ I' S' R' hv (p H' φ I' S' R')⟩
/-- a new thing's value may be shared at once -/
theorem se_frz {X : Cx} {E : Ent} {W : WX} {e : Expr} {m : M RV} (h : SR X E W e m) : SE X E W e m.frz := PEi (pe_gh h) fun σ H Q ⟨st, φ, I, R, p⟩ => by
  refine ⟨st, φ, I, R, ?_⟩
  unfold M.frz M.bind at p
  cases e : m st with
  | ok r st1 =>
    rw [e] at p
    intro H1 φ1 I1 S1 R1 v hr hn
    cases r with
    | sh d => exact .inl (p H1 φ1 I1 S1 R1 v hr)
    | ow c =>
      exact R1.shareR S1 hr hn fun H2 I2 R2 S2 hv => p H2 φ1 I2 S2 R2 v hv
    | lo i =>
      have p' : Po X.K E W σ (mVar i st1) H1 st1 φ1 I1 fun d H' st' φ' I' => ∀ v, Rv X.K φ' I' d v → Q v H' := by
        simp only [RV.frz] at p
        cases e2 : mVar i st1 with
        | ok d st2 =>
          rw [e2] at p
          exact fun H2 φ2 I2 S2 R2 => p H2 φ2 I2 (S1.trans S2) R2
        | exc c st2 =>
          rw [e2] at p
          exact fun d H2 φ2 I2 S2 R2 => p d H2 φ2 I2 (S1.trans S2) R2
        | stuck => rw [e2] at p; exact p
      obtain ⟨v', h1, g⟩ := R1.var p'
      have hr' : σ[i]? = some (some v) := hr
      rw [hr'] at h1
      cases h1
      exact g fun d H' st' I' S' R' hv q => q v hv
  | exc c st1 => rw [e] at p; exact p
  | stuck => rw [e] at p; exact p
/-- what is new shared, the frame's own left -/
theorem sr_bor {X : Cx} {E : Ent} {W : WX} {e : Expr} {m : M RV} (h : SR X E W e m) : SR X E W e m.bor := PEi (pe_gh h) fun σ H Q ⟨st, φ, I, R, p⟩ => by
  refine ⟨st, φ, I, R, ?_⟩
  unfold M.bor M.bind at p
  cases e : m st with
  | ok r st1 =>
    rw [e] at p
    intro H1 φ1 I1 S1 R1 v hr hn
    cases r with
    | sh d => exact .inl (p H1 φ1 I1 S1 R1 v hr hn)
    | lo i => exact .inl (p H1 φ1 I1 S1 R1 v hr hn)
    | ow c =>
      exact R1.shareR S1 hr hn fun H2 I2 R2 S2 hv => p H2 φ1 I2 S2 R2 v hv Nw.sh
  | exc c st1 => rw [e] at p; exact p
  | stuck => rw [e] at p; exact p
/-- a value seen later -/
theorem Rr.seen {K : PySem.W.Frag} {E : Ent} {σ : L2.St} {H H' : Hp} {st st' : State} {φ φ' : List Addr} {I I' : Hp} {r : RV} {v : V} {d : D} (hr : Rr K E σ H st φ I r v) (S : Stp σ H st φ I H' st' φ' I') (R : Rp K E σ H' st' φ' I') (hd : view st' r = some d) : Seen K φ' I' H' d v := by
  cases r with
  | ow c => cases hd
  | lo i =>
    simp only [view] at hd
    have hs : σ[i]? = some (some v) := hr
    cases e : st'.env[i]? with
    | none => rw [e] at hd; cases hd
    | some s =>
      rw [e] at hd
      cases s with
      | un => cases hd
      | sh d' =>
        cases hd
        obtain ⟨u, h1, h2⟩ := R.sh i d e
        rw [hs] at h1
        cases h1
        exact .inl h2
      | ow c =>
        cases hd
        obtain ⟨a, h1, h2, _⟩ := R.ow i c e
        rw [hs] at h1
        cases h1
        exact .inr ⟨a, c, rfl, rfl, h2⟩
  | sh d0 =>
    have hv : Rv K φ' I' d0 v := Rv.mono S.pf S.ii hr
    by_cases ho : ∃ n, d0 = .obj n
    · obtain ⟨n, rfl⟩ := ho
      simp only [view] at hd
      cases hv with
      | obj h =>
        rename_i a
        cases e : st'.store[n]? with
        | none => rw [e] at hd; cases hd
        | some c =>
          rw [e] at hd
          have hc := R.cells n c a e h
          cases c with
          | dead => cases hd
          | ls ds =>
            cases hd
            exact .inr ⟨a, _, rfl, rfl, hc.elim (fun z => by cases z) id⟩
          | dc ds =>
            cases hd
            exact .inr ⟨a, _, rfl, rfl, hc.elim (fun z => by cases z) id⟩
          | dt ds =>
            cases hd
            exact .inr ⟨a, _, rfl, rfl, hc.elim (fun z => by cases z) id⟩
          | ins C fs =>
            cases hd
            exact .inl (.obj h)
          | tab P q => cases hd
    · have : view st' (.sh d0) = some d0 := by
        cases d0 <;> first | rfl | exact absurd ⟨_, rfl⟩ ho
      rw [this] at hd
      cases hd
      exact .inl hv
end PM
set_option Elab.async false
set_option linter.all false
set_option maxRecDepth 100000
set_option maxHeartbeats 1200000
namespace PM
open PySem PySem.Spec L2
/-! ### small runs -/
def mV (i : Nat) : M RV := fun st => match st.env[i]? with
  | some (.sh d) => .ok (.sh d) st
  | some (.ow _) => .ok (.lo i) st
  | _ => .stuck
def mL (d : D) : M RV := M.pure (.sh d)
def at2 {α : Type} (g : D → D → Option α) (r s : RV) : M α := fun st => match view st r, view st s with
  | some x, some y => M.ofO (g x y) st
  | _, _ => .stuck
def at1 {α : Type} (g : D → Option α) (r : RV) : M α := fun st => match view st r with
  | some x => M.ofO (g x) st
  | none => .stuck
def mOp (g : D → D → Option RV) (a b : M RV) : M RV := a.bor.bind fun r => b.bor.bind fun s => at2 g r s
def mUn (g : D → Option RV) (a : M RV) : M RV := a.bor.bind fun r => at1 g r
def mCmp (g : D → D → Option Bool) (a b : M RV) : M Bool := a.bor.bind fun r => b.bor.bind fun s => at2 g r s
def mBl (m : M Bool) : M RV := m.bind fun b => M.pure (.sh (.bl b))
def mAnd (a b : M Bool) : M Bool := a.bind fun c => if c then b else M.pure false
def mOr (a b : M Bool) : M Bool := a.bind fun c => if c then M.pure true else b
def mNot (a : M Bool) : M Bool := a.bind fun c => M.pure (!c)
def mIf {α : Type} (c : M Bool) (a b : M α) : M α := c.bind fun k => if k then a else b
def mNil : M (List D) := M.pure []
def mCons (a : M RV) (r : M (List D)) : M (List D) := a.frz.bind fun x => r.bind fun xs => M.pure (x :: xs)
/-- the largest number of items that is looked at -/
def lim : Nat := 1000000
theorem lim_le : lim ≤ sizeLine := by decide
theorem lim_lt : lim < sizeLine := by decide
def M.small {α : Type} (n : Nat) (m : M α) : M α := if n ≤ lim then m else M.stuck
def mTup (m : M (List D)) : M RV := m.bind fun xs => M.small xs.length (M.pure (.sh (.tup xs)))
def mLst (m : M (List D)) : M RV := m.bind fun xs => M.small xs.length (M.pure (.ow (.ls xs)))
section
variable {K : PySem.W.Frag} {E : Ent} {W : WX} {σ : L2.St} {H : Hp} {st : State} {φ : List Addr} {I : Hp} {α : Type}
theorem Po.small {n : Nat} {m : M α} {k : α → Hp → State → List Addr → Hp → Prop} (h : Po K E W σ (M.small n m st) H st φ I k) : n ≤ lim ∧ Po K E W σ (m st) H st φ I k := by
  unfold M.small at h
  by_cases hn : n ≤ lim
  · rw [if_pos hn] at h; exact ⟨hn, h⟩
  · rw [if_neg hn] at h; exact h.elim
theorem Po.at2 {g : D → D → Option α} {r s : RV} {k : α → Hp → State → List Addr → Hp → Prop} (h : Po K E W σ (at2 g r s st) H st φ I k) :
    ∃ x y a, view st r = some x ∧ view st s = some y ∧ g x y = some a ∧ ∀ H' φ' I', Stp σ H st φ I H' st φ' I' → Rp K E σ H' st φ' I' → k a H' st φ' I' := by
  unfold PM.at2 at h
  cases e1 : view st r with
  | none => rw [e1] at h; exact h.elim
  | some x =>
    cases e2 : view st s with
    | none => rw [e1, e2] at h; exact h.elim
    | some y =>
      rw [e1, e2] at h
      simp only at h
      cases e3 : g x y with
      | none => rw [e3] at h; exact h.elim
      | some a => rw [e3] at h; exact ⟨x, y, a, rfl, rfl, e3, h⟩
theorem Po.at1 {g : D → Option α} {r : RV} {k : α → Hp → State → List Addr → Hp → Prop} (h : Po K E W σ (at1 g r st) H st φ I k) :
    ∃ x a, view st r = some x ∧ g x = some a ∧ ∀ H' φ' I', Stp σ H st φ I H' st φ' I' → Rp K E σ H' st φ' I' → k a H' st φ' I' := by
  unfold PM.at1 at h
  cases e1 : view st r with
  | none => rw [e1] at h; exact h.elim
  | some x =>
    rw [e1] at h
    simp only at h
    cases e3 : g x with
    | none => rw [e3] at h; exact h.elim
    | some a => rw [e3] at h; exact ⟨x, a, rfl, e3, h⟩
theorem Seen.rv {d : D} {v : V} (h : Rv K φ I d v) : Seen K φ I H d v := .inl h
end
section
variable {X : Cx} {E : Ent} {W : WX} {pos : Pos}
theorem sr_lit {e : Expr} {d : D} {v : V} (h : PE X e (tC v)) (hv : ∀ φ I, Rv X.K φ I d v) : SR X E W e (mL d) := PEi h fun σ H Q ⟨st, φ, I, R, p⟩ => p.pure R v (hv _ _) Nw.sh
theorem sr_int {i j pos} : SR X E W (.Constant (.int i) j pos) (mL (.int i)) := sr_lit pe_int fun _ _ => .int i
theorem sr_bl {b j pos} : SR X E W (.Constant (.bool b) j pos) (mL (.bl b)) := sr_lit pe_bl fun _ _ => .bl b
theorem sr_non {j pos} : SR X E W (.Constant .none j pos) (mL .non) := sr_lit pe_non fun _ _ => .non
theorem sr_str {x j pos} : SR X E W (.Constant (.str x) j pos) (mL (.str x)) := sr_lit pe_str fun _ _ => .str x
/-- a number, a text of the module -/
theorem sr_gI {x : Str} {i : Int} {t : Tok} {pos : Pos} (hg : Gl X x) (hm : X.mg x = some (.int i t)) (hd : (x == ("__debug__" : Str)) = false := by decide) : SR X E W (.Name x pos) (mL (.int i)) :=
  sr_lit (pe_glob (v := .int i) hg hm ⟨t, rfl⟩ hd) fun _ _ => .int i
theorem sr_v (i : Nat) {x : Str} {pos : Pos} (hN : X.N[i]? = some x := by rfl) (hv : Vis X.env.scope x := by first | exact Or.inl rfl | exact Or.inr (Or.inl rfl) | exact Or.inr (Or.inr rfl)) (hd : (x == ("__debug__" : Str)) = false := by decide)
    (hcd : (x == ("__classdict__" : Str)) = false := by decide) : SR X E W (.Name x pos) (mV i) := PEi (pe_var hN hv hd hcd) fun σ H Q ⟨st, φ, I, R, p⟩ => by
  unfold mV at p
  cases e : st.env[i]? with
  | none => rw [e] at p; exact p.elim
  | some s =>
    rw [e] at p
    cases s with
    | un => exact p.elim
    | sh d =>
      obtain ⟨v, h1, h2⟩ := R.sh i d e
      exact ⟨v, h1, p H φ I Stp.refl R v h2 Nw.sh⟩
    | ow c =>
      obtain ⟨a, h1, h2⟩ := R.ow i c e
      exact ⟨_, h1, p H φ I Stp.refl R _ h1 fun _ _ q => by cases q⟩
/-! ### operations of values -/
/-- the value of an operation that changes nothing -/
def Af (K : PySem.W.Frag) (E : Ent) (σ : L2.St) (H : Hp) (st : State) (φ : List Addr) (I : Hp) (r : RV) (Q : VK) : Prop :=
  ∀ u H' I', Stp σ H st φ I H' st φ I' → Rp K E σ H' st φ I' → Rr K E σ H' st φ I' r u → (∀ a c, r = .ow c → u = .ref a → H a = none) → Q u H'
def rdO (K : PySem.W.Frag) (E : Ent) (g : D → D → Option RV) : R2 := fun v w H Q => ∃ σ st φ I x y r, Rp K E σ H st φ I ∧ Seen K φ I H x v ∧ Seen K φ I H y w ∧ g x y = some r ∧ Af K E σ H st φ I r Q
def rdB (K : PySem.W.Frag) (E : Ent) (g : D → D → Option Bool) : R2 := fun v w H Q => ∃ σ st φ I x y r, Rp K E σ H st φ I ∧ Seen K φ I H x v ∧ Seen K φ I H y w ∧ g x y = some r ∧ Q (.bl r) H
def rdU (K : PySem.W.Frag) (E : Ent) (g : D → Option RV) : V → Hp → VK → Prop := fun v H Q => ∃ σ st φ I x r, Rp K E σ H st φ I ∧ Seen K φ I H x v ∧ g x = some r ∧ Af K E σ H st φ I r Q
abbrev OpS (X : Cx) (E : Ent) (f : Value → Value → Sem Value) (g : D → D → Option RV) : Prop := OpR X f (rdO X.K E g)
abbrev OpB (X : Cx) (E : Ent) (f : Value → Value → Sem Value) (g : D → D → Option Bool) : Prop := OpR X f (rdB X.K E g)
variable {a b c : Expr} {ma mb mc : M RV} {g : D → D → Option RV} {gb : D → D → Option Bool} {gu : D → Option RV}
theorem Nw.far {σ : L2.St} {H H1 : Hp} {st : State} {r : RV} {v : V} (ht : ∀ a, H a ≠ none → H1 a ≠ none) (hn : ∀ a c, r = .ow c → v = .ref a → H1 a = none) : Nw σ H st r v := fun a c e1 e2 => (by
  have := hn a c e1 e2
  cases q : H a with
  | none => rfl
  | some o => exact absurd this (ht a (by rw [q]; simp)))
theorem rd_op {σ : L2.St} {H : Hp} {Q : VK} (h : rdR X.K E W (mOp g ma mb) σ H Q) : tOp (rdO X.K E g) (rdR X.K E W ma.bor) (rdR X.K E W mb.bor) σ H Q := by
  obtain ⟨st, φ, I, R, p⟩ := h
  refine ⟨st, φ, I, R, (Po.bind p).imp fun x H1 st1 φ1 I1 S1 R1 p1 v hv _ => ?_⟩
  refine ⟨st1, φ1, I1, R1, (Po.bind p1).imp fun y H2 st2 φ2 I2 S2 R2 p2 w hw _ => ?_⟩
  obtain ⟨x', y', r, ex, ey, e, p3⟩ := Po.at2 p2
  refine ⟨σ, st2, φ2, I2, x', y', r, R2, hv.seen S2 R2 ex, hw.seen Stp.refl R2 ey, e, fun u H' I' S' R' hr hn => ?_⟩
  have S12 := S1.trans S2
  exact p3 H' φ2 I' S' R' u hr (Nw.far S12.there hn)
theorem sr_op {op : Operator} (ho : OpS X E (binaryOp op) g) (ha : SR X E W a ma) (hb : SR X E W b mb) : SR X E W (.BinOp a op b pos) (mOp g ma mb) := PEi (pe_op ho (sr_bor ha) (sr_bor hb)) fun _ _ _ h => rd_op h
theorem sr_un {op : UnaryOp} (ho : UnR X (unaryOp op) (rdU X.K E gu)) (ha : SR X E W a ma) : SR X E W (.UnaryOp op a pos) (mUn gu ma) := PEi (pe_un ho (sr_bor ha)) fun σ H Q ⟨st, φ, I, R, p⟩ => by
  refine ⟨st, φ, I, R, (Po.bind p).imp fun x H1 st1 φ1 I1 S1 R1 p1 v hv _ => ?_⟩
  obtain ⟨x', r, ex, e, p3⟩ := Po.at1 p1
  exact ⟨σ, st1, φ1, I1, x', r, R1, hv.seen Stp.refl R1 ex, e, fun u H' I' S' R' hr hn => p3 H' φ1 I' S' R' u hr (Nw.far S1.there hn)⟩
theorem rd_cmp {σ : L2.St} {H : Hp} {Q : VK} {k : Bool → Hp → State → List Addr → Hp → Prop} {st : State} {φ : List Addr} {I : Hp} (R : Rp X.K E σ H st φ I) (p : Po X.K E W σ (mCmp gb ma mb st) H st φ I k)
    (hk : ∀ r H' st' φ' I', Rp X.K E σ H' st' φ' I' → k r H' st' φ' I' → Q (.bl r) H') : tOp (rdB X.K E gb) (rdR X.K E W ma.bor) (rdR X.K E W mb.bor) σ H Q := by
  refine ⟨st, φ, I, R, (Po.bind p).imp fun x H1 st1 φ1 I1 S1 R1 p1 v hv _ => ?_⟩
  refine ⟨st1, φ1, I1, R1, (Po.bind p1).imp fun y H2 st2 φ2 I2 S2 R2 p2 w hw _ => ?_⟩
  obtain ⟨x', y', r, ex, ey, e, p3⟩ := Po.at2 p2
  exact ⟨σ, st2, φ2, I2, x', y', r, R2, hv.seen S2 R2 ex, hw.seen Stp.refl R2 ey, e, hk r H2 st2 φ2 I2 R2 (p3 H2 φ2 I2 Stp.refl R2)⟩
theorem sr_cmp {op : CmpOp} (ho : OpB X E (compareOp op) gb) (ha : SR X E W a ma) (hb : SR X E W b mb) (hm : behindInMarks op b = false) : SR X E W (.Compare a [op] [b] pos) (mBl (mCmp gb ma mb)) := PEi (pe_cmpR ho (sr_bor ha) (sr_bor hb) hm) fun σ H Q ⟨st, φ, I, R, p⟩ =>
  rd_cmp R (Po.bind p) fun r H' st' φ' I' R' h => h.pure R' _ (.bl r) Nw.sh
theorem st_cmp {op : CmpOp} (ho : OpB X E (compareOp op) gb) (ha : SR X E W a ma) (hb : SR X E W b mb) (hm : behindInMarks op b = false) : ST X E W (.Compare a [op] [b] pos) (mCmp gb ma mb) := PTi (pt_cmpR ho (sr_bor ha) (sr_bor hb) hm) fun σ H Q ⟨st, φ, I, R, p⟩ =>
  rd_cmp R p fun r H' st' φ' I' _ h => ⟨r, rfl, h⟩
/-! ### and, or, not, if -/
variable {ta tb : M Bool} {rest : List Expr}
theorem rd_if {α : Type} {σ : L2.St} {H : Hp} {st : State} {φ : List Addr} {I : Hp} {k : α → Hp → State → List Addr → Hp → Prop} {x y : M α} (R : Rp X.K E σ H st φ I) (p : Po X.K E W σ (mIf ta x y st) H st φ I k) (Q : Bool → Hp → Prop)
    (h : ∀ b H1 st1 φ1 I1, Rp X.K E σ H1 st1 φ1 I1 → Stp σ H st φ I H1 st1 φ1 I1 → Po X.K E W σ ((if b = true then x else y) st1) H1 st1 φ1 I1 k → Q b H1) : rdT X.K E W ta σ H Q :=
  ⟨st, φ, I, R, (Po.bind p).imp fun b H1 st1 φ1 I1 S1 R1 p1 => h b H1 st1 φ1 I1 R1 S1 p1⟩
theorem sw_and1 (ha : ST X E W a ta) : SW X E W (.BoolOp .And [a] pos) ta := pw_and1 ha
theorem sw_or1 (ha : ST X E W a ta) : SW X E W (.BoolOp .Or [a] pos) ta := pw_or1 ha
theorem sw_and (ha : ST X E W a ta) (hb : SW X E W (.BoolOp .And (b :: rest) pos) tb) : SW X E W (.BoolOp .And (a :: b :: rest) pos) (mAnd ta tb) := PWi (pw_and ha hb) fun σ H Q ⟨st, φ, I, R, p⟩ => by
  refine rd_if R p _ fun c H1 st1 φ1 I1 R1 S1 p1 => ?_
  cases c with
  | true => exact ⟨st1, φ1, I1, R1, p1⟩
  | false => exact p1.pure R1
theorem sw_or (ha : ST X E W a ta) (hb : SW X E W (.BoolOp .Or (b :: rest) pos) tb) : SW X E W (.BoolOp .Or (a :: b :: rest) pos) (mOr ta tb) := PWi (pw_or ha hb) fun σ H Q ⟨st, φ, I, R, p⟩ => by
  refine rd_if R p _ fun c H1 st1 φ1 I1 R1 S1 p1 => ?_
  cases c with
  | true => exact p1.pure R1
  | false => exact ⟨st1, φ1, I1, R1, p1⟩
theorem st_not (ha : ST X E W a ta) : ST X E W (.UnaryOp .Not a pos) (mNot ta) := PTi (pt_not ha) fun σ H Q ⟨st, φ, I, R, p⟩ =>
  ⟨st, φ, I, R, (Po.bind p).imp fun c H1 st1 φ1 I1 S1 R1 p1 => p1.pure R1⟩
theorem sr_if (hc : ST X E W c ta) (ha : SR X E W a ma) (hb : SR X E W b mb) : SR X E W (.IfExp c a b pos) (mIf ta ma mb) := PEi (pe_ifExp hc ha hb) fun σ H Q ⟨st, φ, I, R, p⟩ => by
  refine rd_if R p _ fun k H1 st1 φ1 I1 R1 S1 p1 => ?_
  cases k with
  | true => exact ⟨st1, φ1, I1, R1, p1.imp fun r H2 st2 φ2 I2 S2 R2 q v hr hn => q v hr (hn.back S1)⟩
  | false => exact ⟨st1, φ1, I1, R1, p1.imp fun r H2 st2 φ2 I2 S2 R2 q v hr hn => q v hr (hn.back S1)⟩
/-- a bool's value: and, or, not -/
theorem asBl {σ : L2.St} {H : Hp} {Q : VK} (h : rdR X.K E W (mBl ta) σ H Q) : rdT X.K E W ta σ H fun b H1 => Q (.bl b) H1 := by
  obtain ⟨st, φ, I, R, p⟩ := h
  exact ⟨st, φ, I, R, (Po.bind p).imp fun b H1 st1 φ1 I1 S1 R1 p1 => p1.pure R1 _ (.bl b) Nw.sh⟩
/-- an expression whose runs give bools -/
abbrev SB (X : Cx) (E : Ent) (W : WX) (e : Expr) (m : M Bool) : Prop := SR X E W e (mBl m)
theorem sb_one {op} (h : SB X E W a ta) : SB X E W (.BoolOp op [a] pos) ta := pe_one h
theorem ofBl {σ : L2.St} {H : Hp} {Q : VK} (h : rdT X.K E W ta σ H fun b H1 => Q (.bl b) H1) : rdR X.K E W (mBl ta) σ H Q := by
  obtain ⟨st, φ, I, R, p⟩ := h
  refine ⟨st, φ, I, R, ?_⟩
  show Po X.K E W σ (M.bind ta (fun b => M.pure (RV.sh (.bl b))) st) H st φ I _
  unfold M.bind
  cases e : ta st with
  | ok b st1 =>
    rw [e] at p
    intro H1 φ1 I1 S1 R1 v hv _
    have e2 : v = .bl b := by cases hv; rfl
    subst e2
    exact p H1 φ1 I1 S1 R1
  | exc c st1 => rw [e] at p; exact p
  | stuck => rw [e] at p; exact p
theorem rdTi {σ : L2.St} {H : Hp} {Q Q' : Bool → Hp → Prop} (h : rdT X.K E W ta σ H Q) (k : ∀ b H, Q b H → Q' b H) : rdT X.K E W ta σ H Q' := by
  obtain ⟨st, φ, I, R, p⟩ := h
  exact ⟨st, φ, I, R, p.imp fun b H1 _ _ _ _ _ q => k b H1 q⟩
theorem sb_and (ha : SB X E W a ta) (hb : SB X E W (.BoolOp .And (b :: rest) pos) tb) : SB X E W (.BoolOp .And (a :: b :: rest) pos) (mAnd ta tb) := PEi (pe_and ha hb) fun σ H Q h => by
  obtain ⟨st, φ, I, R, p⟩ := asBl h
  refine ofBl (rdTi (rd_if R p _ fun c H1 st1 φ1 I1 R1 S1 p1 => ?_) fun b H q => ⟨b, rfl, q⟩)
  cases c with
  | true => exact ofBl ⟨st1, φ1, I1, R1, p1⟩
  | false => exact p1.pure R1
theorem sb_or (ha : SB X E W a ta) (hb : SB X E W (.BoolOp .Or (b :: rest) pos) tb) : SB X E W (.BoolOp .Or (a :: b :: rest) pos) (mOr ta tb) := PEi (pe_or ha hb) fun σ H Q h => by
  obtain ⟨st, φ, I, R, p⟩ := asBl h
  refine ofBl (rdTi (rd_if R p _ fun c H1 st1 φ1 I1 R1 S1 p1 => ?_) fun b H q => ⟨b, rfl, q⟩)
  cases c with
  | true => exact p1.pure R1
  | false => exact ofBl ⟨st1, φ1, I1, R1, p1⟩
theorem sb_not (ha : SB X E W a ta) : SB X E W (.UnaryOp .Not a pos) (mNot ta) := PEi (pe_not ha) fun σ H Q h => by
  obtain ⟨st, φ, I, R, p⟩ := asBl h
  exact ofBl ⟨st, φ, I, R, (Po.bind p).imp fun b H1 st1 φ1 I1 S1 R1 p1 => ⟨b, rfl, p1.pure R1⟩⟩
/-- .. of a run whose value must be a bool -/
def asB : D → Option Bool
  | .bl b => some b
  | _ => none
def mB (m : M RV) : M Bool := m.bind fun r => match r with
  | .sh d => M.ofO (asB d)
  | _ => M.stuck
theorem rd_B {σ : L2.St} {H : Hp} {Q : Bool → Hp → Prop} (h : rdT X.K E W (mB ma) σ H Q) : rdR X.K E W ma σ H fun x H1 => ∃ c, x = .bl c ∧ Q c H1 := by
  obtain ⟨st, φ, I, R, p⟩ := h
  refine ⟨st, φ, I, R, (Po.bind p).imp fun r H1 st1 φ1 I1 S1 R1 p1 v hv _ => ?_⟩
  cases r with
  | ow c => exact p1.elim
  | lo i => exact p1.elim
  | sh d =>
    obtain ⟨b, e, p2⟩ := Po.ofO p1
    cases d <;> simp only [asB, Option.some.injEq, reduceCtorEq] at e
    subst e
    cases hv
    exact ⟨_, rfl, p2 H1 φ1 I1 Stp.refl R1⟩
theorem sb_B (h : SR X E W a ma) : SB X E W a (mB ma) := PEi h fun σ H Q h => by
  have h1 := rd_B (asBl h)
  obtain ⟨st, φ, I, R, p⟩ := h1
  refine ⟨st, φ, I, R, p.imp fun r H1 st1 φ1 I1 S1 R1 q v hv hn => ?_⟩
  obtain ⟨c, rfl, q⟩ := q v hv hn
  exact q
theorem st_B (h : SR X E W a ma) (he : ∀ whole, isTrue a X.env whole = (do let v ← whole; standAt a.pos; holding [v] (truthy v)) := by intro _; rfl) : ST X E W a (mB ma) := PTi (pt_val h he) fun σ H Q h => rd_B h
/-! ### arguments, displays -/
variable {es : List Expr} {mr : M (List D)}
theorem sa_nil : SA X E W [] mNil := PAi pa_nil fun σ H Q ⟨st, φ, I, R, p⟩ => p.pure R _ .nil
theorem sa_cons (ha : SR X E W a ma) (hr : SA X E W es mr) (hs : starEach (a :: es) X.env = (false, eval a X.env) :: starEach es X.env := by rfl) : SA X E W (a :: es) (mCons ma mr) := PAi (pa_cons (se_frz ha) hr hs) fun σ H Q ⟨st, φ, I, R, p⟩ => by
  refine ⟨st, φ, I, R, (Po.bind p).imp fun x H1 st1 φ1 I1 S1 R1 p1 v hv => ?_⟩
  refine ⟨st1, φ1, I1, R1, (Po.bind p1).imp fun y H2 st2 φ2 I2 S2 R2 p2 w hw => ?_⟩
  exact p2.pure R2 _ (.cons (hv.mono S2.pf S2.ii) hw)
theorem sr_tup {k} (h : SA X E W es mr) : SR X E W (.Tuple es k pos) (mTup mr) := PEi (pe_tup h) fun σ H Q ⟨st, φ, I, R, p⟩ => by
  refine ⟨st, φ, I, R, (Po.bind p).imp fun xs H1 st1 φ1 I1 S1 R1 p1 vs hv => ?_⟩
  obtain ⟨hz, p2⟩ := Po.small p1
  refine ⟨by rw [← hv.len]; exact Nat.le_trans hz lim_le, fun q hq => ?_⟩
  obtain ⟨R2, S2⟩ := R1.laidS hq (.tup vs)
  exact p2 _ φ1 _ S2 R2 _ (.tup upd_same (hv.mono S2.pf S2.ii)) Nw.sh
theorem sr_lst (h : SA X E W es mr) : SR X E W (.List es pos) (mLst mr) := PEi (pe_lst h) fun σ H Q ⟨st, φ, I, R, p⟩ => by
  refine ⟨st, φ, I, R, (Po.bind p).imp fun xs H1 st1 φ1 I1 S1 R1 p1 vs hv => ?_⟩
  obtain ⟨hz, p2⟩ := Po.small p1
  refine ⟨by rw [← hv.len]; exact Nat.le_trans hz lim_le, fun q hq => ?_⟩
  obtain ⟨R2, S2⟩ := R1.laidO hq (.lst vs)
  obtain ⟨h0, hφ, hI, ho⟩ := R1.fresh hq
  exact p2 _ φ1 _ S2 R2 _ ⟨q, rfl, ⟨_, upd_same, hI, .ls hv⟩, hφ, h0, ho⟩ (Nw.far S1.there fun a c _ e => by cases e; exact hq)
end
end PM
set_option Elab.async false
set_option linter.all false
set_option maxRecDepth 100000
set_option maxHeartbeats 1200000
namespace PM
open PySem PySem.Spec L2
theorem Grow.refl {φ : List Addr} {I : Hp} : Grow φ I φ I := ⟨List.prefix_rfl, Ex.refl _⟩
theorem Grow.trans {φ p1 p2 : List Addr} {I I1 I2 : Hp} (a : Grow φ I p1 I1) (b : Grow p1 I1 p2 I2) : Grow φ I p2 I2 := ⟨a.pf.trans b.pf, a.ii.trans b.ii⟩
theorem Stp.grow {σ : L2.St} {H H' : Hp} {st st' : State} {φ φ' : List Addr} {I I' : Hp} (S : Stp σ H st φ I H' st' φ' I') : Grow φ I φ' I' := ⟨S.pf, S.ii⟩
/-! ### runs of statements -/
def mNx : MS := .nx
def mSeq (a b : MS) : MS := fun st => match a st with
  | .nx st' => b st'
  | o => o
def M.then {α : Type} (m : M α) (f : α → MS) : MS := fun st => match m st with
  | .ok a st' => f a st'
  | .exc c st' => .exc c st'
  | .stuck => .stuck
def mDrop (m : M RV) : MS := m.then fun _ => .nx
/-- a value, the frame's own shared -/
def M.fix (m : M RV) : M RV := m.bind fun r => match r with
  | .lo i => (mVar i).bind fun d => M.pure (.sh d)
  | r => M.pure r
def mSet (i : Nat) (m : M RV) : MS := m.fix.then fun r st => .nx { st with env := st.env.set i r.slot }
def mRet (m : M RV) : MS := m.fix.then fun r st => .rt r st
/-- the frame's own thing is handed out -/
def mRetV (i : Nat) : MS := fun st => match st.env[i]? with
  | some (.sh d) => .rt (.sh d) st
  | some (.ow c) => .rt (.ow c) { st with env := st.env.set i .un }
  | _ => .stuck
def mRetN : MS := fun st => .rt (.sh .non) st
def mIfS (c : M Bool) (a b : MS) : MS := c.then fun k => if k then a else b
def mBrk : MS := .bk
def mCnt : MS := .ct
def mStk : MS := fun _ => .stuck
def mWhileN : Nat → M Bool → MS → MS
  | 0, _, _ => fun _ => .stuck
  | n + 1, c, b => c.then fun k => if k then fun st => match b st with
      | .nx st' => mWhileN n c b st'
      | .ct st' => mWhileN n c b st'
      | .bk st' => .nx st'
      | o => o
    else .nx
def mWhile (f : State → Nat) (c : M Bool) (b : MS) : MS := fun st => mWhileN (f st) c b st
def mForL (g : D → State → Option State) (b : MS) : List D → MS
  | [] => .nx
  | d :: ds => fun st => match g d st with
    | some st1 => match b st1 with
      | .nx st' => mForL g b ds st'
      | .ct st' => mForL g b ds st'
      | .bk st' => .nx st'
      | o => o
    | none => .stuck
def mFor (it : M (List D)) (g : D → State → Option State) (b : MS) : MS := it.then fun ds => mForL g b ds
/-- targets -/
def gN (i : Nat) : D → State → Option State := fun d st => some { st with env := st.env.set i (.sh d) }
def gsNil : List D → State → Option State := fun ds st => match ds with
  | [] => some st
  | _ => none
def gsCons (g : D → State → Option State) (r : List D → State → Option State) : List D → State → Option State := fun ds st => match ds with
  | d :: ds => (g d st).bind (r ds)
  | [] => none
def gT (n : Nat) (r : List D → State → Option State) : D → State → Option State := fun d st => match d with
  | .tup ds => if ds.length = n then r ds st else none
  | .tpF ds => if ds.length = n then r ds st else none
  | _ => none
section
variable {K : PySem.W.Frag} {E : Ent} {W : WX} {σ : L2.St} {H : Hp} {st : State} {φ : List Addr} {I : Hp} {α β : Type} {D : Ends}
theorem Ps.grow {φ0 : List Addr} {I0 : Hp} {o : SOut} (g : Grow φ0 I0 φ I) (h : Ps K E W φ0 I0 D o) : Ps K E W φ I D o := by
  cases o with
  | nx st => exact fun a b c d e => h a b c d (g.trans e)
  | bk st => exact fun a b c d e => h a b c d (g.trans e)
  | ct st => exact fun a b c d e => h a b c d (g.trans e)
  | rt r st => exact fun x a b c d e => h x a b c d (g.trans e)
  | exc r st => exact fun x a b c d e => h x a b c d (g.trans e)
  | stuck => exact h
theorem Ps.then {m : M α} {f : α → MS} (h : Ps K E W φ I D (m.then f st)) : Po K E W σ (m st) H st φ I fun a H1 st1 φ1 I1 => Ps K E W φ1 I1 D (f a st1) := by
  unfold M.then at h
  cases e : m st with
  | ok a st1 =>
    rw [e] at h
    exact fun H1 φ1 I1 S1 R1 => Ps.grow S1.grow h
  | exc c st1 =>
    rw [e] at h
    exact fun d H' φ' I' S R x => h d σ H' φ' I' S.grow R x
  | stuck => rw [e] at h; exact h
end
section
variable {X : Cx} {E : Ent} {W : WX} {pos : Pos} {s : Stmt} {rest : List Stmt} {a b : MS} {e c : Expr} {m : M RV} {tc : M Bool}
theorem ss_nil : SSs X E W [] mNx := PSsi pss_nil fun D σ H ⟨st, φ, I, R, p⟩ => p σ H φ I Grow.refl R
theorem ss_cons (ha : SS X E W s a) (hb : SSs X E W rest b) : SSs X E W (s :: rest) (mSeq a b) := PSsi (pss_cons ha hb) fun D σ H ⟨st, φ, I, R, p⟩ => by
  refine ⟨st, φ, I, R, ?_⟩
  unfold mSeq at p
  cases e : a st with
  | nx st' =>
    rw [e] at p
    exact fun σ' H' φ' I' g R' => ⟨st', φ', I', R', Ps.grow g p⟩
  | rt r st' => rw [e] at p; exact p
  | bk st' => rw [e] at p; exact p
  | ct st' => rw [e] at p; exact p
  | exc r st' => rw [e] at p; exact p
  | stuck => rw [e] at p; exact p
theorem ss_one (ha : SS X E W s a) : SSs X E W [s] a := pss_one ha
theorem ss_stk : SS X E W s mStk := PSi ps_never fun D σ H ⟨st, φ, I, R, p⟩ => p.elim
theorem ss_expr (h : SR X E W e m) (hs : swapsWith e none pos.line X.env = pure false := by rfl) : SS X E W (.Expr e pos) (mDrop m) := PSi (ps_expr h hs) fun D σ H ⟨st, φ, I, R, p⟩ =>
  ⟨st, φ, I, R, (Ps.then p).imp fun r H1 st1 φ1 I1 S1 R1 q v _ _ => q σ H1 φ1 I1 Grow.refl R1⟩
/-- a value to be kept -/
theorem sr_fix (h : SR X E W e m) : SR X E W e m.fix := PEi (pe_gh h) fun σ H Q ⟨st, φ, I, R, p⟩ => by
  refine ⟨st, φ, I, R, ?_⟩
  unfold M.fix M.bind at p
  cases e : m st with
  | ok r st1 =>
    rw [e] at p
    intro H1 φ1 I1 S1 R1 v hr hn
    cases r with
    | sh d => exact .inl (p H1 φ1 I1 S1 R1 v hr hn)
    | ow c => exact .inl (p H1 φ1 I1 S1 R1 v hr hn)
    | lo i =>
      have p' : Po X.K E W σ (mVar i st1) H1 st1 φ1 I1 fun d H' st' φ' I' => ∀ v, Rv X.K φ' I' d v → Q v H' := by
        simp only at p
        cases e2 : mVar i st1 with
        | ok d st2 =>
          rw [e2] at p
          exact fun H2 φ2 I2 S2 R2 v hv => p H2 φ2 I2 (S1.trans S2) R2 v hv Nw.sh
        | exc c st2 =>
          rw [e2] at p
          exact fun d H2 φ2 I2 S2 R2 => p d H2 φ2 I2 (S1.trans S2) R2
        | stuck => rw [e2] at p; exact p
      obtain ⟨v', h1, g⟩ := R1.var p'
      have hr' : σ[i]? = some (some v) := hr
      rw [hr'] at h1
      cases h1
      exact g fun d H' st' I' S' R' hv q => q v hv
  | exc c st1 => rw [e] at p; exact p
  | stuck => rw [e] at p; exact p
theorem ss_set (i : Nat) {x : Str} {pos' : Pos} (hN : X.N.Nodup) (h : SR X E W e m) (hi : X.N[i]? = some x := by rfl) (hx : Loc X.env.scope x := by first | exact Or.inl rfl | exact Or.inr rfl) (hs : swapsWith e (some (.Name x pos')) pos.line X.env = pure false := by rfl)
    (hf : X.fn x = true ∨ X.env.scope.names.lookup x = some .local := by first | exact .inl rfl | exact .inr rfl | assumption) : SS X E W (.Assign [.Name x pos'] e pos) (mSet i m) := PSi (ps_set hN hi hx (sr_fix h) hs hf) fun D σ H ⟨st, φ, I, R, p⟩ =>
  ⟨st, φ, I, R, (Ps.then p).imp fun r H1 st1 φ1 I1 S1 R1 q v hv _ => q _ H1 φ1 I1 Grow.refl (R1.setR hv)⟩
theorem ss_ret (h : SR X E W e m) : SS X E W (.Return (some e) pos) (mRet m) := PSi (ps_ret (sr_fix h)) fun D σ H ⟨st, φ, I, R, p⟩ =>
  ⟨st, φ, I, R, (Ps.then p).imp fun r H1 st1 φ1 I1 S1 R1 q v hv _ => q v σ H1 φ1 I1 Grow.refl R1 hv⟩
theorem ss_if {x y : List Stmt} (hc : ST X E W c tc) (ha : SSs X E W x a) (hb : SSs X E W y b) : SS X E W (.If c x y pos) (mIfS tc a b) := PSi (ps_if hc ha hb) fun D σ H ⟨st, φ, I, R, p⟩ => by
  refine ⟨st, φ, I, R, (Ps.then p).imp fun k H1 st1 φ1 I1 S1 R1 q => ?_⟩
  cases k with
  | true => exact ⟨st1, φ1, I1, R1, q⟩
  | false => exact ⟨st1, φ1, I1, R1, q⟩
theorem ss_while (f : State → Nat) {x : List Stmt} (hp : PassesOwn (model X.prog X.w) X.A X.env X.xe) (hc : ST X E W c tc) (ha : SSs X E W x a) : SS X E W (.While c x [] pos) (mWhile f tc a) := PSi (ps_while hp hc ha) fun D σ H ⟨st, φ, I, R, p⟩ => by
  refine ⟨fun n σ H => ∃ st φ I, Rp X.K E σ H st φ I ∧ Ps X.K E W φ I D (mWhileN n tc a st), ⟨_, st, φ, I, R, p⟩, ?_⟩
  rintro n σ H ⟨st, φ, I, R, p⟩
  cases n with
  | zero => exact p.elim
  | succ n =>
    refine ⟨st, φ, I, R, (Ps.then p).imp fun k H1 st1 φ1 I1 S1 R1 q => ?_⟩
    cases k with
    | false => exact q σ H1 φ1 I1 Grow.refl R1
    | true =>
      refine ⟨fun σ H => ∃ st φ I, Rp X.K E σ H st φ I ∧ Ps X.K E W φ I D (mWhileN n tc a st), fun σ' H' h => ⟨n, Nat.lt_succ_self n, h⟩, st1, φ1, I1, R1, ?_⟩
      replace q : Ps X.K E W φ1 I1 D (match a st1 with
        | .nx st' => mWhileN n tc a st'
        | .ct st' => mWhileN n tc a st'
        | .bk st' => .nx st'
        | o => o) := q
      cases e : a st1 with
      | nx st2 => rw [e] at q; exact fun σ2 H2 φ2 I2 g R2 => ⟨st2, φ2, I2, R2, Ps.grow g q⟩
      | ct st2 => rw [e] at q; exact fun σ2 H2 φ2 I2 g R2 => ⟨st2, φ2, I2, R2, Ps.grow g q⟩
      | bk st2 => rw [e] at q; exact q
      | rt r st2 => rw [e] at q; exact q
      | exc r st2 => rw [e] at q; exact q
      | stuck => rw [e] at q; exact q
/-! ### targets -/
/-- slots other than ts are as they were -/
structure Off (ts : List Nat) (σ σ' : L2.St) (st st' : State) : Prop where
  same : ∀ i, i ∉ ts → σ'[i]? = σ[i]?
  len : σ'.length = σ.length
  ow : ∀ j a, Owns st'.env σ' j a → Owns st.env σ j a
  env : ∀ i, i ∉ ts → st'.env[i]? = st.env[i]?
  store : st'.store = st.store
theorem Off.refl {ts : List Nat} {σ : L2.St} {st : State} : Off ts σ σ st st := ⟨fun _ _ => rfl, rfl, fun _ _ h => h, fun _ _ => rfl, rfl⟩
theorem Off.trans {ts us : List Nat} {σ σ1 σ2 : L2.St} {st st1 st2 : State} (a : Off ts σ σ1 st st1) (b : Off us σ1 σ2 st1 st2) : Off (ts ++ us) σ σ2 st st2 :=
  ⟨fun i h => (b.same i fun z => h (List.mem_append_right _ z)).trans (a.same i fun z => h (List.mem_append_left _ z)), b.len.trans a.len, fun j x h => a.ow j x (b.ow j x h), fun i h => (b.env i fun z => h (List.mem_append_right _ z)).trans (a.env i fun z => h (List.mem_append_left _ z)), b.store.trans a.store⟩
def rdG (K : PySem.W.Frag) (E : Ent) (ts : List Nat) (g : D → State → Option State) : TG := fun v σ H Q => ∃ st φ I d st', Rp K E σ H st φ I ∧ Rv K φ I d v ∧ g d st = some st' ∧ ∀ σ', Off ts σ σ' st st' → Rp K E σ' H st' φ I → Q σ' H
def rdGs (K : PySem.W.Frag) (E : Ent) (ts : List Nat) (g : List D → State → Option State) : TGs := fun vs σ H Q => ∃ st φ I ds st', Rp K E σ H st φ I ∧ Rvs K φ I ds vs ∧ g ds st = some st' ∧ ∀ σ', Off ts σ σ' st st' → Rp K E σ' H st' φ I → Q σ' H
theorem PGi {e : Expr} {t t' : TG} (h : PG X e t) (k : ∀ v σ H Q, t' v σ H Q → t v σ H Q) : PG X e t' := ⟨fun p s σ H v u Q I r q => h.run p s σ H v u Q I r (k _ _ _ _ q)⟩
theorem PGsi {e : List Expr} {t t' : TGs} (h : PGs X e t) (k : ∀ v σ H Q, t' v σ H Q → t v σ H Q) : PGs X e t' := ⟨fun p s σ H v u Q I r q => h.run p s σ H v u Q I r (k _ _ _ _ q)⟩
abbrev SG (X : Cx) (E : Ent) (e : Expr) (ts : List Nat) (g : D → State → Option State) : Prop := PG X e (rdG X.K E ts g)
abbrev SGs (X : Cx) (E : Ent) (e : List Expr) (ts : List Nat) (g : List D → State → Option State) : Prop := PGs X e (rdGs X.K E ts g)
variable {g : D → State → Option State} {gr : List D → State → Option State} {es : List Expr} {ts us : List Nat}
theorem sg_n (i : Nat) {x : Str} (hN : X.N.Nodup) (hi : X.N[i]? = some x := by rfl) (hx : Loc X.env.scope x := by first | exact Or.inl rfl | exact Or.inr rfl) (hf : X.fn x = true ∨ X.env.scope.names.lookup x = some .local := by first | exact .inl rfl | exact .inr rfl | assumption) :
    SG X E (.Name x pos) [i] (gN i) := PGi (pg_name hN hi hx hf) fun v σ H Q ⟨st, φ, I, d, st', R, hv, e, q⟩ => by
  cases e
  refine q _ ⟨fun j hj => ?_, List.length_set .., ?_, fun j hj => ?_, rfl⟩ (R.setR (r := .sh d) hv)
  · exact List.getElem?_set_ne (fun z => hj (by simp [z]))
  · rintro j a ⟨c, q1, q2⟩
    have hj : i ≠ j := by
      rintro rfl
      have hi : i < st.env.length := by
        have := (List.getElem?_eq_some_iff.mp q1).1
        rwa [List.length_set] at this
      rw [List.getElem?_set_self hi] at q1
      cases q1
    rw [List.getElem?_set_ne hj] at q1 q2
    exact ⟨c, q1, q2⟩
  · exact List.getElem?_set_ne (fun z => hj (by simp [z]))
theorem sgs_nil : SGs X E [] [] gsNil := PGsi pgs_nil fun vs σ H Q ⟨st, φ, I, ds, st', R, hv, e, q⟩ => by
  cases ds with
  | cons _ _ => cases e
  | nil =>
    cases e
    cases hv
    exact ⟨rfl, q σ Off.refl R⟩
theorem sgs_cons (h1 : SG X E e ts g) (h2 : SGs X E es us gr) (hs : (assignEach (e :: es) X.env).map (·.2) = assign e X.env :: (assignEach es X.env).map (·.2) := by rfl) : SGs X E (e :: es) (ts ++ us) (gsCons g gr) := PGsi (pgs_cons h1 h2 hs) fun vs σ H Q ⟨st, φ, I, ds, st', R, hv, e, q⟩ => by
  cases ds with
  | nil => cases e
  | cons d ds =>
    cases hv with
    | cons hv hvs =>
      obtain ⟨st1, e1, e2⟩ := Option.bind_eq_some_iff.mp (show (g d st).bind (gr ds) = some st' from e)
      refine ⟨_, _, rfl, st, φ, I, d, st1, R, hv, e1, fun σ1 o1 R1 => ?_⟩
      exact ⟨st1, φ, I, ds, st', R1, hvs, e2, fun σ2 o2 R2 => q σ2 (o1.trans o2) R2⟩
theorem sg_tup {k : Nat} {n : Nat} (hc : X.calm = true) (h : SGs X E es ts gr) (hn : (assignEach es X.env).length = n := by rfl) (hst : (assignEach es X.env).findIdx? (·.1) = none := by rfl) : SG X E (.Tuple es k pos) ts (gT n gr) := PGi (pg_tup hc h hn hst) fun v σ H Q ⟨st, φ, I, d, st', R, hv, e, q⟩ => by
  unfold gT at e
  cases d <;> simp only [reduceCtorEq] at e
  · rename_i ds
    by_cases hl : ds.length = n
    · rw [if_pos hl] at e
      cases hv with
      | tup hs hr => exact ⟨_, _, rfl, .inl (.inl (R.ext _ _ hs)), hr.len.symm.trans hl, st, φ, I, ds, st', R, hr, e, q⟩
    · rw [if_neg hl] at e
      cases e
  · rename_i ds
    by_cases hl : ds.length = n
    · rw [if_pos hl] at e
      cases hv with
      | tpF hs hr => exact ⟨_, _, rfl, sqT_mono R.ext hs, hr.len.symm.trans hl, st, φ, I, ds, st', R, hr, e, q⟩
    · rw [if_neg hl] at e
      cases e
/-- a target gets an expression's value -/
def mAsg (g : D → State → Option State) (m : M RV) : MS := m.frz.then fun d st => match g d st with
  | some st' => .nx st'
  | none => .stuck
theorem ss_asg {tg : Expr} (h : SR X E W e m) (hg : SG X E tg ts g) (hs : swapsWithSole [tg] e pos.line X.env = pure false := by rfl) (hw : swappedStores [tg] e X.env = pure none := by rfl) (h1 : (assignEach [tg] X.env).map (·.2) = [assign tg X.env] := by rfl) :
    SS X E W (.Assign [tg] e pos) (mAsg g m) := PSi (ps_asg (se_frz h) hg hs hw h1) fun D σ H ⟨st, φ, I, R, p⟩ => by
  refine ⟨st, φ, I, R, (Ps.then p).imp fun d H1 st1 φ1 I1 S1 R1 q v hv => ?_⟩
  cases e : g d st1 with
  | none => rw [e] at q; exact q.elim
  | some st2 =>
    rw [e] at q
    exact ⟨st1, φ1, I1, d, st2, R1, hv, e, fun σ' _ R' => q σ' H1 φ1 I1 Grow.refl R'⟩
/-! ### for -/
/-- the iterator J gives these items, one a turn, from now on -/
def Walk (K : PySem.W.Frag) (E : Ent) (J : It) (ds : List D) (φ0 : List Addr) (I0 : Hp) : Prop := ∀ σ H st φ I, Rp K E σ H st φ I → Grow φ0 I0 φ I → ∀ i : Nat,
  (∀ d, ds[i]? = some d → J.go i H ∧ ∀ x H', J.yld i H x H' → ∃ I', Rp K E σ H' st φ I' ∧ Stp σ H st φ I H' st φ I' ∧ Rv K φ I' d x) ∧ (ds.length ≤ i → J.stop i H)
def rdI (K : PySem.W.Frag) (E : Ent) (W : WX) (m : M (List D)) : TI := fun σ H R => ∃ st φ I, Rp K E σ H st φ I ∧ Po K E W σ (m st) H st φ I fun ds H' st' φ' I' => ∀ J, Walk K E J ds φ' I' → R J H'
abbrev SI (X : Cx) (E : Ent) (W : WX) (tg iter : Expr) (m : M (List D)) : Prop := PI X tg iter (rdI X.K E W m)
theorem PIi {tg e : Expr} {t t' : TI} (h : PI X tg e t) (k : ∀ σ H R, t' σ H R → t σ H R) : PI X tg e t' := ⟨fun p s σ H Q I q => h.run p s σ H Q I (k _ _ _ q)⟩
theorem ss_for {tg iter : Expr} {mi : M (List D)} {x : List Stmt} (hp : PassesOwn (model X.prog X.w) X.A X.env X.xe) (hc : X.calm = true) (hi : SI X E W tg iter mi) (hg : SG X E tg ts g) (hb : SSs X E W x a)
    (hs : ∀ x, foldedSetIterable iter X.env x = pure x := by intro _; rfl) : SS X E W (.For tg iter x [] pos) (mFor mi g a) := PSi (ps_for hp hc hi hg hb hs) fun D σ H ⟨st, φ, I, R, p⟩ => by
  refine ⟨st, φ, I, R, (Ps.then p).imp fun ds H1 st1 φ1 I1 S1 R1 q J hJ => ?_⟩
  refine ⟨fun i m σ H => m + i = ds.length ∧ ∃ st φ I, Rp X.K E σ H st φ I ∧ Grow φ1 I1 φ I ∧ Ps X.K E W φ I D (mForL g a (ds.drop i) st), ⟨ds.length, rfl, st1, φ1, I1, R1, Grow.refl, q⟩, ?_⟩
  rintro i m σ2 H2 ⟨hm, st2, φ2, I2, R2, g2, p2⟩
  obtain ⟨h1, h2⟩ := hJ σ2 H2 st2 φ2 I2 R2 g2 i
  by_cases hi : i < ds.length
  · refine .inr ?_
    have hd : ds.drop i = ds[i] :: ds.drop (i + 1) := List.drop_eq_getElem_cons hi
    rw [hd] at p2
    obtain ⟨go, yld⟩ := h1 ds[i] (List.getElem?_eq_getElem hi)
    refine ⟨go, fun σ H => ∃ st φ I, Rp X.K E σ H st φ I ∧ Grow φ1 I1 φ I ∧ Ps X.K E W φ I D (mForL g a (ds.drop (i + 1)) st), fun σ' H' h => ⟨m - 1, by omega, by omega, h⟩, fun v H' hy => ?_⟩
    obtain ⟨I3, R3, S3, hv⟩ := yld v H' hy
    have g3 := S3.grow
    replace p2 : Ps X.K E W φ2 I2 D (match g ds[i] st2 with
      | some st1 => match a st1 with
        | .nx st' => mForL g a (ds.drop (i + 1)) st'
        | .ct st' => mForL g a (ds.drop (i + 1)) st'
        | .bk st' => .nx st'
        | o => o
      | none => .stuck) := p2
    cases e : g ds[i] st2 with
    | none => rw [e] at p2; exact p2.elim
    | some st4 =>
      rw [e] at p2
      refine ⟨st2, φ2, I3, ds[i], st4, R3, hv, e, fun σ4 _ R4 => ⟨st4, φ2, I3, R4, ?_⟩⟩
      have g24 := g3
      replace p2 := Ps.grow g24 p2
      simp only at p2
      cases e2 : a st4 with
      | nx st5 => rw [e2] at p2; exact fun σ5 H5 φ5 I5 g5 R5 => ⟨st5, φ5, I5, R5, g2.trans (g24.trans g5), Ps.grow g5 p2⟩
      | ct st5 => rw [e2] at p2; exact fun σ5 H5 φ5 I5 g5 R5 => ⟨st5, φ5, I5, R5, g2.trans (g24.trans g5), Ps.grow g5 p2⟩
      | bk st5 => rw [e2] at p2; exact p2
      | rt r st5 => rw [e2] at p2; exact p2
      | exc r st5 => rw [e2] at p2; exact p2
      | stuck => rw [e2] at p2; exact p2
  · refine .inl ⟨h2 (by omega), ?_⟩
    rw [List.drop_eq_nil_of_le (by omega)] at p2
    exact p2 σ2 H2 φ2 I2 Grow.refl R2
end
end PM
set_option Elab.async false
set_option linter.all false
set_option maxRecDepth 100000
set_option maxHeartbeats 1200000
namespace PM
open PySem PySem.Spec L2
/-! ### a def as a function of its arguments and of the things -/
inductive FRes where
  | ret (r : RV) (store : List Cell) | exc (c : Exc) (store : List Cell) | stuck
abbrev Fn := List D → List Cell → FRes
def toF : SOut → FRes
  | .nx st => .ret (.sh .non) st.store
  | .rt (.sh d) st => .ret (.sh d) st.store
  | .rt (.ow c) st => .ret (.ow c) st.store
  | .exc c st => .exc c st.store
  | _ => .stuck
/-- the slots at the entry: the parameters, then as many more names -/
def entry (ds : List D) (n : Nat) : List Slot := ds.map .sh ++ List.replicate n .un
def runF (ms : MS) (n : Nat) : Fn := fun ds store => toF (ms ⟨entry ds n, store⟩)
structure Rq (K : PySem.W.Frag) (H : Hp) (store : List Cell) (φ : List Addr) (I : Hp) : Prop where
  ext : Ex I H
  nd : φ.Nodup
  len : φ.length = store.length
  cells : ∀ (i : Nat) c a, store[i]? = some c → φ[i]? = some a → c = .dead ∨ CellAt K φ I H a c
  pin : ∀ a ∈ φ, H a ≠ none
def st0 (store : List Cell) : State := ⟨[], store⟩
def Fq (K : PySem.W.Frag) (H : Hp) (φ : List Addr) (I : Hp) (Q : VK) (E : XK) : FRes → Prop
  | .ret r store' => ∀ v H' φ' I', Rp K (.at H φ I) [] H' (st0 store') φ' I' → Rr K (.at H φ I) [] H' (st0 store') φ' I' r v → Q v H'
  | .exc c store' => ∀ d H' φ' I', Rp K (.at H φ I) [] H' (st0 store') φ' I' → Rx K (.at H φ I) φ' I' H' c.fs d → E (c.cls.val K) d H'
  | .stuck => False
/-- the promise that a def is worth F -/
def spOf (K : PySem.W.Frag) (F : Fn) : Sp := fun vs H Q E => ∃ ds store φ I, Rq K H store φ I ∧ Rvs K φ I ds vs ∧ Fq K H φ I Q E (F ds store)
/-- at f a def may be called with m places and the keywords ks; it is worth F of the arguments in the call's order -/
def FnC (P : Program) (w : World) (K : PySem.W.Frag) (mg : Str → Option Value) (base : Heap) (k : Nat) (f : Addr) (m : Nat) (ks : List Str) (F : Fn) : Prop :=
  ∀ (A : Around) (outer : List Env) (s : Shared) (H : Hp) (us : List Value) (vs : List V) (Q : VK) (E : XK), Room k A → A.guards = some [] → Env0 P w K mg base A outer s H → Vals vs us → us.length = m + ks.length → spOf K F vs H Q E →
    codeAny (model P w) A (.call (.ref f) ⟨us.take m, ks.zip (us.drop m)⟩) (CR (L2.CX P w) outer P w H s Q E) s
section
variable {P : Program} {w : World} {K : PySem.W.Frag} {mg : Str → Option Value} {base : Heap} {k : Nat} {f : Addr} {m : Nat} {ks : List Str} {F G : Fn}
theorem FnC.mono {j : Nat} (h : FnC P w K mg base k f m ks F) (hj : k ≤ j) : FnC P w K mg base j f m ks F := fun A outer s H us vs Q E hr => h A outer s H us vs Q E (hr.mono hj)
/-- F may be told otherwise, where it is asked -/
theorem FnC.eq (h : FnC P w K mg base k f m ks F) (e : ∀ ds store, G ds store ≠ .stuck → F ds store = G ds store) : FnC P w K mg base k f m ks G := fun A outer s H us vs Q E hr hg he hv hl ⟨ds, store, φ, I, hq, hvs, hf⟩ => by
  refine h A outer s H us vs Q E hr hg he hv hl ⟨ds, store, φ, I, hq, hvs, ?_⟩
  rw [e ds store (fun z => by rw [z] at hf; exact hf)]
  exact hf
end
/-! ### the body -/
section
variable {K : PySem.W.Frag} {E : Ent} {W : WX} {σ : L2.St} {H : Hp} {st : State} {φ : List Addr} {I : Hp}
theorem Rp.forget (R : Rp K E σ H st φ I) : Rp K E [] H (st0 st.store) φ I :=
  ⟨R.ext, R.keep, R.there, R.inew, R.iold, R.pre, R.fl, R.pnew, R.nd, R.len, R.cells, R.pin, rfl, fun i d h => by simp [st0] at h, fun i c h => by simp [st0] at h, fun i j a h => by obtain ⟨c, h1, _⟩ := h; simp [st0] at h1⟩
theorem Rr.forget {r : RV} {v : V} (h : Rr K E σ H st φ I r v) (hl : ∀ i, r ≠ .lo i) : Rr K E [] H (st0 st.store) φ I r v := by
  cases r with
  | sh d => exact h
  | lo i => exact absurd rfl (hl i)
  | ow c =>
    obtain ⟨a, e, h1, h2, h3, _⟩ := h
    exact ⟨a, e, h1, h2, h3, fun i z => by obtain ⟨c, h1, _⟩ := z; simp [st0] at h1⟩
theorem entry_get {ds : List D} {n i : Nat} {d : D} (h : (entry ds n)[i]? = some (.sh d)) : ds[i]? = some d := by
  unfold entry at h
  by_cases hi : i < (ds.map Slot.sh).length
  · rw [List.getElem?_append_left hi, List.getElem?_map] at h
    cases e : ds[i]? with
    | none => rw [e] at h; cases h
    | some d' => rw [e] at h; cases h; rfl
  · rw [List.getElem?_append_right (by omega), List.getElem?_replicate] at h
    split at h <;> cases h
theorem entry_ow {ds : List D} {n i : Nat} {c : Cell} (h : (entry ds n)[i]? = some (.ow c)) : False := by
  unfold entry at h
  by_cases hi : i < (ds.map Slot.sh).length
  · rw [List.getElem?_append_left hi, List.getElem?_map] at h
    cases e : ds[i]? with
    | none => rw [e] at h; cases h
    | some d' => rw [e] at h; cases h
  · rw [List.getElem?_append_right (by omega), List.getElem?_replicate] at h
    split at h <;> cases h
/-- at the entry -/
theorem Rq.enter {store : List Cell} {N : List Str} {ds : List D} {vs : List V} (q : Rq K H store φ I) (h : Rvs K φ I ds vs) (hl : ds.length ≤ N.length) : Rp K (.at H φ I) (L2.start N vs) H ⟨entry ds (N.length - ds.length), store⟩ φ I := by
  refine ⟨q.ext, fun _ _ e _ => e, fun _ h => h, fun a h n => absurd n h, Ex.refl _, ⟨[], by simp⟩, ⟨List.prefix_rfl, Ex.refl _⟩, fun a h => .inl h, q.nd, q.len, q.cells, q.pin, ?_, fun i d e => ?_, fun i c e => (entry_ow e).elim, fun i j a z => ?_⟩
  · show (entry ds _).length = (L2.start N vs).length
    unfold entry L2.start
    simp only [List.length_append, List.length_map, List.length_replicate]
    rw [h.len]
  · have e1 := entry_get e
    obtain ⟨v, h1, h2⟩ := h.get e1
    have hi : i < vs.length := (List.getElem?_eq_some_iff.mp h1).1
    refine ⟨v, ?_, h2⟩
    unfold L2.start
    rw [List.getElem?_append_left (by simpa using hi), List.getElem?_map, h1]
    rfl
  · obtain ⟨c, h1, _⟩ := z
    exact (entry_ow h1).elim
end
section
variable {P : Program} {w : World} {K : PySem.W.Frag} {mg : Str → Option Value} {base : Heap} {k : Nat} {f : Addr} {m : Nat} {ks : List Str} {name qual : Str} {params : Arguments} {body : List Stmt} {scope : Scope} {dV kV doc pm cdv ct oc : Value} {an od : Option Addr} {osl : Array (Option Value)} {N ps : List Str} {ms : MS}
/-- the end of a body's run -/
theorem rd_body {E : XK} {H : Hp} {Q : VK} {φ : List Addr} {I : Hp} {σ : L2.St} {st : State} (R : Rp K (.at H φ I) σ H st φ I) (h : Fq K H φ I Q E (toF (ms st))) :
    rdS K (.at H φ I) (fun cls d _ H => E cls d H) ms { nx := fun _ H' => Q .non H', rt := Q } σ H := by
  refine ⟨st, φ, I, R, ?_⟩
  cases e : ms st with
  | nx st' => rw [e] at h; exact fun σ' H' φ' I' _ R' => h .non H' φ' I' R'.forget .non
  | rt r st' =>
    rw [e] at h
    cases r with
    | lo i => exact h.elim
    | sh d => exact fun v σ' H' φ' I' _ R' hr => h v H' φ' I' R'.forget (hr.forget fun i z => by cases z)
    | ow c => exact fun v σ' H' φ' I' _ R' hr => h v H' φ' I' R'.forget (hr.forget fun i z => by cases z)
  | exc c st' => rw [e] at h; exact fun d σ' H' φ' I' _ R' hx => h d H' φ' I' R'.forget hx
  | bk st' => rw [e] at h; exact h.elim
  | ct st' => rw [e] at h; exact h.elim
  | stuck => rw [e] at h; exact h.elim
/-- THE RULE for a def: perm tells which of the arguments (in the call's order, the defaults behind them) goes to each parameter -/
theorem fn_c {ds0 : List Value} {dd0 : List D} {dv0 : List V} (pick : ∀ {α : Type}, List α → List α) (hpick : ∀ {α β : Type} (R : α → β → Prop) (xs : List α) (ys : List β), Paired R xs ys → Paired R (pick xs) (pick ys))
    (lk : K.lookup f = some ⟨oc, od, .func (PySem.W.fnOf name qual params body scope dV kV doc pm an cdv ct), osl⟩) (hcd : PySem.W.codeIn K cdv qual = true) (S : FnScope N ps scope)
    (hb : ∀ (s : Shared) (us : List Value), K.In s.heap → us.length = m + ks.length → BindsTo s (PySem.W.fnOf name qual params body scope dV kV doc pm an cdv ct) ⟨us.take m, ks.zip (us.drop m)⟩ (ps.zip (pick us)))
    (hlen : ∀ {α : Type} (xs : List α), xs.length = m + ks.length → (pick xs).length = ps.length)
    (hbody : ∀ (A : Around) (outer : List Env) (s : Shared) (H : Hp) (Ee : Ent) (E : XK), Room k (A.deeper (PyProof.Rows.envOfC qual scope s.heap.objs.size f cdv)) → (A.deeper (PyProof.Rows.envOfC qual scope s.heap.objs.size f cdv)).guards = some [] →
      Takes (cxOf (L2.CX P w) P w K mg base N qual scope f cdv A outer s H E) (fun cls d _ H => E cls d H) → SSs (cxOf (L2.CX P w) P w K mg base N qual scope f cdv A outer s H E) Ee (fun cls d _ H => E cls d H) body ms) :
    FnC P w K mg base (k + 1) f m ks (fun ds store => runF ms (N.length - ps.length) (pick ds) store) := by
  intro A outer s H us vs Q E hr hgd e0 hv hl ⟨ds, store, φ, I, hq, hvs, hf⟩
  have KX : K.In s.heap := e0.mod.kin.keeps fun b o e => (e0.bs b o e).1
  have hlv : vs.length = m + ks.length := by rw [hv.length]; exact hl
  have hld : ds.length = m + ks.length := by rw [hvs.len]; exact hlv
  have hp : Rvs K φ I (pick ds) (pick vs) := by
    have aux : ∀ {ds : List D} {vs : List V}, Rvs K φ I ds vs ↔ Paired (Rv K φ I) ds vs := by
      intro ds vs
      constructor
      · intro h
        induction ds generalizing vs with
        | nil => cases h; exact .nil
        | cons d ds ih => cases h with | cons h1 h2 => exact .cons h1 (ih h2)
      · intro h
        induction h with
        | nil => exact .nil
        | cons h1 _ ih => exact .cons h1 ih
    exact aux.mpr (hpick _ _ _ (aux.mp hvs))
  have hpV : Vals (pick vs) (pick us) := hpick _ _ _ hv
  refine StX.run_bnd (ps := ps) (G := fun vs' H' => vs' = pick vs ∧ H' = H) lk hcd S hr e0 (fun A' Ex Q' h' => ?_) fun s2 H2 vs' hG hr' => ?_
  · exact hb s us KX hl _ _ _ _ (h' s H (pick vs) (pick us) e0 Un.refl rfl (fun _ _ z => z) hpV (hlen _ hlv) ⟨rfl, rfl⟩)
  · obtain ⟨rfl, rfl⟩ := hG
    have hpl : ps.length ≤ N.length := by
      have := congrArg List.length S.pre
      rw [List.length_take] at this
      omega
    have hpd : (pick ds).length = ps.length := hlen _ hld
    refine ⟨_, hbody A outer s2 H2 (.at H2 φ I) E hr' (by rw [show (A.deeper _).guards = A.guards from rfl]; exact hgd) (takes_of rfl rfl rfl rfl), ?_⟩
    refine rd_body (ms := ms) (Rq.enter hq hp (by omega)) ?_
    rw [hpd]
    exact hf
end
end PM
set_option Elab.async false
set_option linter.all false
set_option maxRecDepth 100000
set_option maxHeartbeats 1200000
namespace PM
open PySem PySem.Spec L2
section
variable {K : PySem.W.Frag} {E : Ent} {σ : L2.St} {H H' : Hp} {st : State} {φ φ' : List Addr} {I I' : Hp} {store' : List Cell}
theorem Rp.ask (R : Rp K E σ H st φ I) : Rq K H st.store φ I := ⟨R.ext, R.nd, R.len, R.cells, R.pin⟩
/-- behind a call -/
theorem Rp.after (R : Rp K E σ H st φ I) (B : Rp K (.at H φ I) [] H' (st0 store') φ' I') : Rp K E σ H' { st with store := store' } φ' I' ∧ Stp σ H st φ I H' { st with store := store' } φ' I' := by
  obtain ⟨more, hm⟩ := B.pre
  have hm : φ' = φ ++ more := hm
  have pf : φ <+: φ' := ⟨more, hm.symm⟩
  have nf : ∀ a ∈ φ', a ∉ φ → H a = none := fun a h n => (B.pnew a h).elim (fun z => absurd z n) id
  have own : ∀ (i : Nat) (c : Cell), st.env[i]? = some (Slot.ow c) → ∃ a, σ[i]? = some (some (V.ref a)) ∧ CellAt K φ' I' H' a c ∧ a ∉ φ' ∧ E.H0 a = none := fun i c h => by
    obtain ⟨a, h1, ⟨o, e1, e2, e3⟩, h3, h4⟩ := R.ow i c h
    refine ⟨a, h1, ⟨o, B.keep a o e1 h3, ?_, e3.mono pf B.iold⟩, fun z => ?_, h4⟩
    · cases q : I' a with
      | none => rfl
      | some u =>
        rcases B.inew a (by rw [q]; simp) e2 with z | z
        · have z : H a = none := z
          rw [e1] at z
          cases z
        · exact absurd z h3
    · have := nf a z h3
      rw [e1] at this
      cases this
  refine ⟨⟨B.ext, fun a o e n => ?_, fun a h => B.there a (R.there a h), fun a h n => ?_, R.iold.trans B.iold, ?_, (R.fl.ii B.iold).pp pf, fun a h => ?_, B.nd, B.len, B.cells, B.pin, R.elen, fun i d h => ?_, own, R.one⟩, ⟨pf, nf, B.iold, fun a o e n _ => B.keep a o e n, B.there, fun a h n => (B.inew a h n).elim .inl fun z => .inr (.inl z), fun _ _ h => h⟩⟩
  · refine B.keep a o (R.keep a o e n) fun z => ?_
    rcases R.pnew a z with q | q
    · exact n q
    · rw [e] at q; cases q
  · cases q : I a with
    | some u => exact R.inew a (by rw [q]; simp) n
    | none =>
      rcases B.inew a h q with z | z
      · have z : H a = none := z
        refine .inl ?_
        cases q2 : E.H0 a with
        | none => rfl
        | some o => exact absurd z (R.there a (by rw [q2]; simp))
      · exact (R.pnew a z).elim .inr .inl
  · obtain ⟨m1, e1⟩ := R.pre
    exact ⟨m1 ++ more, by rw [hm, e1, List.append_assoc]⟩
  · rcases B.pnew a h with z | z
    · exact R.pnew a z
    · have z : H a = none := z
      refine .inr ?_
      cases q2 : E.H0 a with
      | none => rfl
      | some o => exact absurd z (R.there a (by rw [q2]; simp))
  · obtain ⟨v, h1, h2⟩ := R.sh i d h
    exact ⟨v, h1, h2.mono pf B.iold⟩
theorem Rr.after (R : Rp K E σ H st φ I) {r : RV} {v : V} (h : Rr K (.at H φ I) [] H' (st0 store') φ' I' r v) (hl : ∀ i, r ≠ .lo i) : Rr K E σ H' { st with store := store' } φ' I' r v ∧ Nw σ H st r v := by
  cases r with
  | lo i => exact absurd rfl (hl i)
  | sh d => exact ⟨h, Nw.sh⟩
  | ow c =>
    obtain ⟨a, e, h1, h2, h3, _⟩ := h
    have h3 : H a = none := h3
    obtain ⟨f1, f2, f3, f4⟩ := R.fresh h3
    refine ⟨⟨a, e, h1, h2, f1, f4⟩, fun b c' _ e2 => ?_⟩
    rw [e] at e2
    cases e2
    exact h3
end
theorem Rx.after {K : PySem.W.Frag} {E : Ent} {σ : L2.St} {H H' : Hp} {st : State} {φ φ' : List Addr} {I I' : Hp} (R : Rp K E σ H st φ I) {fs : Option (List (Str × D))} {d : Option Addr} (h : Rx K (.at H φ I) φ' I' H' fs d) : Rx K E φ' I' H' fs d := by
  cases fs with
  | none => exact h
  | some fs =>
    obtain ⟨a, us, e1, e2, e3⟩ := h
    refine ⟨a, us, e1, ?_, e3⟩
    have e2 : H a = none := e2
    cases q : E.H0 a with
    | none => rfl
    | some o => exact absurd e2 (R.there a (by rw [q]; simp))
def ofF (st : State) : FRes → Out RV
  | .ret (.lo _) _ => .stuck
  | .ret r store => .ok r { st with store := store }
  | .exc c store => .exc c { st with store := store }
  | .stuck => .stuck
def mCall (n : Nat) (F : Fn) (args : M (List D)) : M RV := args.bind fun ds st => if ds.length = n then ofF st (F ds st.store) else .stuck
section
variable {X : Cx} {E : Ent} {W : WX} {pos p : Pos} {k : Nat} {f : Addr} {m : Nat} {ks : List Str} {F : Fn} {x : Str} {e : Expr} {es : List Expr} {ma : M (List D)}
/-- the callee runs -/
theorem run_c {pins : List (Addr × Obj)} {σ : L2.St} {H : Hp} {s : Shared} {Q : VK} {us ws : List Value} {vs zs : List V} (hF : FnC X.prog X.w X.K X.mg X.base k f m ks F) (hr : Room k X.A) (hgd : X.A.guards = some []) (tk : Takes X W)
    (I : Inv X pins σ H s) (r : Vals vs us) (rz : Vals zs ws) (hm : us.length = m) (hk : ws.length = ks.length) (h : spOf X.K F (vs ++ zs) H Q (WE W σ)) : wpAny (model X.prog X.w) X.A (call (.ref f) us (ks.zip ws)) (EP X pins σ Q) X.xe s := by
  have h1 : (us ++ ws).take m = us := by rw [← hm]; exact List.take_left
  have h2 : (us ++ ws).drop m = ws := by rw [← hm]; exact List.drop_left
  have c := hF X.A X.stack s H (us ++ ws) (vs ++ zs) Q (WE W σ) hr hgd I.env0 (r.append rz) (by rw [List.length_append, hm, hk]) h
  rw [h1, h2] at c
  refine wpAny_call (codeAny_mono c fun r s' hq => ?_)
  cases r with
  | error e => exact passAt tk σ pins H s e s' I hq
  | ok fl =>
    cases fl with
    | ret u => exact I.after hq
    | next => exact hq.elim
    | brk => exact hq.elim
    | cont => exact hq.elim
/-- what a call's run asks of the promise -/
theorem rd_call {σ : L2.St} {H : Hp} {Q : VK} {n : Nat} (h : rdR X.K E W (mCall n F ma) σ H Q) : rdA X.K E W ma σ H fun vs H1 => vs.length = n ∧ spOf X.K F vs H1 Q (WE W σ) := by
  obtain ⟨st, φ, I, R, p⟩ := h
  refine ⟨st, φ, I, R, (Po.bind p).imp fun ds H1 st1 φ1 I1 S1 R1 q vs hv => ?_⟩
  by_cases hn : ds.length = n
  · rw [if_pos hn] at q
    refine ⟨by rw [← hv.len]; exact hn, ds, st1.store, φ1, I1, R1.ask, hv, ?_⟩
    cases e : F ds st1.store with
    | stuck => rw [e] at q; exact q.elim
    | exc c store' =>
      rw [e] at q
      intro d H' φ' I' B hx
      obtain ⟨R2, S2⟩ := R1.after B
      exact q d H' φ' I' S2 R2 (Rx.after R1 hx)
    | ret r store' =>
      rw [e] at q
      intro v H' φ' I' B hr
      obtain ⟨R2, S2⟩ := R1.after B
      cases r with
      | lo i => exact q.elim
      | sh d =>
        obtain ⟨hr', hn'⟩ := Rr.after R1 hr (fun i z => by cases z)
        exact q H' φ' I' S2 R2 v hr' (hn'.back S1)
      | ow c =>
        obtain ⟨hr', hn'⟩ := Rr.after R1 hr (fun i z => by cases z)
        exact q H' φ' I' S2 R2 v hr' (hn'.back S1)
  · rw [if_neg hn] at q
    exact q.elim
theorem sr_call (hF : FnC X.prog X.w X.K X.mg X.base k f m [] F) (hr : Room k X.A) (hgd : X.A.guards = some []) (tk : Takes X W) (hg : Gl X x) (hm : X.mg x = some (.ref f)) (hk : PySem.W.keepIn X.K (.ref f) = true) (ha : SA X E W (e :: es) ma)
    (hdb : (x == ("__debug__" : Str)) = false := by decide) (he : starEach (e :: es) X.env = (false, eval e X.env) :: starEach es X.env := by rfl) (hpl : (backTo pos (starEach es X.env)).any (·.1) = false := by rfl) :
    SR X E W (.Call (.Name x p) (e :: es) [] pos) (mCall m F ma) := ⟨fun pins s σ H Q I h => by
  refine wpAny_Call_Name_kw (ld_glob I hg hm ?_ hdb)
  refine PySem.W.callWith_K (h₀ := X.base) I.ok.mod.kin hk (thn (ha.run pos pins s σ H _ I (rd_call h)) fun us s1 ⟨vs, H1, I1, r, hl, q⟩ => ⟨I1.kIn, ?_⟩) he hpl
  have c := run_c (us := us) (ws := []) (vs := vs) (zs := []) hF hr hgd tk I1 r .nil (by rw [← r.length]; exact hl) rfl (by rw [List.append_nil]; exact q)
  exact c⟩
end
end PM
set_option Elab.async false
set_option linter.all false
set_option maxRecDepth 100000
set_option maxHeartbeats 1200000
namespace PM
open PySem PySem.Spec L2
/-! ### what is seen -/
section
variable {K : PySem.W.Frag} {φ : List Addr} {I H : Hp} {v : V}
theorem Seen.int {i : Int} (h : Seen K φ I H (.int i) v) : v = .int i := by
  rcases h with h | ⟨a, c, _, e, _⟩
  · cases h; rfl
  · cases c <;> cases e
theorem Seen.bl {i : Bool} (h : Seen K φ I H (.bl i) v) : v = .bl i := by
  rcases h with h | ⟨a, c, _, e, _⟩
  · cases h; rfl
  · cases c <;> cases e
theorem Seen.str {i : Str} (h : Seen K φ I H (.str i) v) : v = .str i := by
  rcases h with h | ⟨a, c, _, e, _⟩
  · cases h; rfl
  · cases c <;> cases e
theorem Seen.non (h : Seen K φ I H .non v) : v = .non := by
  rcases h with h | ⟨a, c, _, e, o, _, _, q⟩
  · cases h; rfl
  · cases c with
    | dead => cases q
    | _ => cases e
theorem Seen.tup {ds : List D} (hx : Ex I H) (h : Seen K φ I H (.tup ds) v) : ∃ a vs, v = .ref a ∧ H a = some (.tup vs) ∧ Rvs K φ I ds vs := by
  rcases h with h | ⟨a, c, _, e, _⟩
  · cases h with
    | tup h1 h2 => exact ⟨_, _, rfl, hx _ _ h1, h2⟩
  · cases c <;> cases e
theorem Seen.tpF {ds : List D} (hx : Ex I H) (h : Seen K φ I H (.tpF ds) v) : ∃ a vs, v = .ref a ∧ SqT K H a vs ∧ Rvs K φ I ds vs := by
  rcases h with h | ⟨a, c, _, e, _⟩
  · cases h with
    | tpF h1 h2 => exact ⟨_, _, rfl, sqT_mono hx h1, h2⟩
  · cases c <;> cases e
theorem Seen.lst {ds : List D} (hx : Ex I H) (h : Seen K φ I H (.lst ds) v) : ∃ a vs, v = .ref a ∧ H a = some (.lst vs) ∧ Rvs K φ I ds vs := by
  rcases h with h | ⟨a, c, rfl, e, o, h1, h2, h3⟩
  · cases h with
    | lst h1 h2 => exact ⟨_, _, rfl, hx _ _ h1, h2⟩
  · cases c <;> cases e
    cases h3 with
    | ls h3 => exact ⟨a, _, rfl, h1, h3⟩
theorem Seen.lsF {ds : List D} (hx : Ex I H) (h : Seen K φ I H (.lsF ds) v) : ∃ a vs, v = .ref a ∧ SqL K H a vs ∧ Rvs K φ I ds vs := by
  rcases h with h | ⟨a, c, _, e, _⟩
  · cases h with
    | lsF h1 h2 => exact ⟨_, _, rfl, sqL_mono hx h1, h2⟩
  · cases c <;> cases e
end
/-- a list's items, whoever holds it -/
def asL : D → Option (List D)
  | .lst ds => some ds
  | .lsF ds => some ds
  | _ => none
def asT : D → Option (List D)
  | .tup ds => some ds
  | .tpF ds => some ds
  | _ => none
theorem Seen.asL {K : PySem.W.Frag} {φ : List Addr} {I H : Hp} {v : V} {d : D} {ds : List D} (hx : Ex I H) (h : Seen K φ I H d v) (e : asL d = some ds) : ∃ a vs, v = .ref a ∧ SqL K H a vs ∧ Rvs K φ I ds vs := by
  cases d <;> simp only [PM.asL, Option.some.injEq, reduceCtorEq] at e
  · subst e
    obtain ⟨a, vs, e1, e2, e3⟩ := h.lst hx
    exact ⟨a, vs, e1, .inl (.inl e2), e3⟩
  · subst e
    exact h.lsF hx
theorem Seen.asT {K : PySem.W.Frag} {φ : List Addr} {I H : Hp} {v : V} {d : D} {ds : List D} (hx : Ex I H) (h : Seen K φ I H d v) (e : asT d = some ds) : ∃ a vs, v = .ref a ∧ SqT K H a vs ∧ Rvs K φ I ds vs := by
  cases d <;> simp only [PM.asT, Option.some.injEq, reduceCtorEq] at e
  · subst e
    obtain ⟨a, vs, e1, e2, e3⟩ := h.tup hx
    exact ⟨a, vs, e1, .inl (.inl e2), e3⟩
  · subst e
    exact h.tpF hx
section
variable {X : Cx} {E : Ent} {W : WX}
theorem op_cases {f : Value → Value → Sem Value} {r : R2} (h : ∀ v w H Q, r v w H Q → ∃ r', OpR X f r' ∧ r' v w H Q) : OpR X f r := fun pins s σ H x y v u Q I rx ry q => by
  obtain ⟨r', h1, h2⟩ := h _ _ _ _ q
  exact h1 pins s σ H x y v u Q I rx ry h2
theorem Af.sh {K : PySem.W.Frag} {σ : L2.St} {H : Hp} {st : State} {φ : List Addr} {I : Hp} {d : D} {v : V} {Q : VK} (h : Af K E σ H st φ I (.sh d) Q) (R : Rp K E σ H st φ I) (hv : Rv K φ I d v) : Q v H := h v H I Stp.refl R hv fun _ _ e => by cases e
theorem Af.tup {K : PySem.W.Frag} {σ : L2.St} {H : Hp} {st : State} {φ : List Addr} {I : Hp} {ds : List D} {vs : List V} {Q : VK} (h : Af K E σ H st φ I (.sh (.tup ds)) Q) (R : Rp K E σ H st φ I) (hv : Rvs K φ I ds vs) : ∀ p, H p = none → Q (.ref p) (upd H p (.tup vs)) := fun p hp => by
  obtain ⟨R2, S2⟩ := R.laidS hp (.tup vs)
  exact h _ _ _ S2 R2 (.tup upd_same (hv.mono S2.pf S2.ii)) fun _ _ e => by cases e
theorem Af.lst {K : PySem.W.Frag} {σ : L2.St} {H : Hp} {st : State} {φ : List Addr} {I : Hp} {ds : List D} {vs : List V} {Q : VK} (h : Af K E σ H st φ I (.ow (.ls ds)) Q) (R : Rp K E σ H st φ I) (hv : Rvs K φ I ds vs) : ∀ p, H p = none → Q (.ref p) (upd H p (.lst vs)) := fun p hp => by
  obtain ⟨R2, S2⟩ := R.laidO hp (.lst vs)
  obtain ⟨h0, hφ, hI, ho⟩ := R.fresh hp
  exact h _ _ _ S2 R2 ⟨p, rfl, ⟨_, upd_same, hI, .ls hv⟩, hφ, h0, ho⟩ fun a c _ e => by cases e; exact hp
/-! ### numbers -/
/-- of a size that is reckoned with -/
def sml (i : Int) : Bool := decide (i.natAbs.log2 < 400000)
def opAdd : D → D → Option RV
  | .int i, .int j => some (.sh (.int (i + j)))
  | .str a, .str b => if a.length + b.length ≤ lim then some (.sh (.str (a ++ b))) else none
  | .lst a, .lst b => if a.length + b.length ≤ lim then some (.ow (.ls (a ++ b))) else none
  | .tup a, .tup b => if a.length + b.length ≤ lim then some (.sh (.tup (a ++ b))) else none
  | _, _ => none
def opSub : D → D → Option RV
  | .int i, .int j => some (.sh (.int (i - j)))
  | _, _ => none
def opMul : D → D → Option RV
  | .int i, .int j => if sml i && sml j then some (.sh (.int (i * j))) else none
  | _, _ => none
def opFdv : D → D → Option RV
  | .int i, .int j => if 0 < j ∧ j.natAbs.log2 < 9000 then some (.sh (.int (i / j))) else if j < 0 ∧ j.natAbs.log2 < 9000 then some (.sh (.int (i.fdiv j))) else none
  | _, _ => none
def opMod : D → D → Option RV
  | .int i, .int j => if 0 < j then some (.sh (.int (i % j))) else none
  | _, _ => none
def opPow : D → D → Option RV
  | .int i, .int j => if 0 ≤ j ∧ j ≤ 1000 ∧ i.natAbs < 2 ^ 64 then some (.sh (.int (i ^ j.toNat))) else none
  | _, _ => none
def opNeg : D → Option RV
  | .int i => some (.sh (.int (-i)))
  | _ => none
theorem os_add : OpS X E (binaryOp .Add) opAdd := op_cases fun v w H Q ⟨σ, st, φ, I, x, y, r, R, hx, hy, e, q⟩ => by
  cases x <;> try (simp [opAdd] at e; done)
  all_goals cases y <;> try (simp [opAdd] at e; done)
  · simp only [opAdd, Option.some.injEq] at e
    subst e
    exact ⟨_, op_add, _, _, hx.int, hy.int, q.sh R (.int _)⟩
  · rename_i a b
    simp only [opAdd] at e
    by_cases h : a.length + b.length ≤ lim
    · rw [if_pos h] at e
      cases e
      exact ⟨_, op_add_str, _, _, hx.str, hy.str, Nat.le_trans h lim_le, q.sh R (.str _)⟩
    · rw [if_neg h] at e
      cases e
  · rename_i a b
    simp only [opAdd] at e
    by_cases h : a.length + b.length ≤ lim
    · rw [if_pos h] at e
      cases e
      obtain ⟨p, vs, rfl, h1, h2⟩ := hx.tup R.ext
      obtain ⟨p', ws, rfl, h3, h4⟩ := hy.tup R.ext
      have back : ∀ {z : D} {u : V}, Seen X.K φ I H z u → (∃ l, z = .tup l) → Rv X.K φ I z u := fun hz ⟨l, hl⟩ => hz.elim id fun ⟨_, c, _, e, _⟩ => by subst hl; cases c <;> cases e
      refine ⟨_, op_catA, p, p', vs, ws, rfl, rfl, .inl (.inl h1), .inl (.inl h3), ?_, fun z => ?_, fun _ z => ?_, fun _ _ => q.tup R (h2.append h4)⟩
      · rw [← h2.len, ← h4.len]
        exact Nat.le_trans h lim_le
      · subst z
        cases h2
        exact q.sh R (back hy ⟨_, rfl⟩)
      · subst z
        cases h4
        rw [List.append_nil] at q
        exact q.sh R (back hx ⟨_, rfl⟩)
    · rw [if_neg h] at e
      cases e
  · rename_i a b
    simp only [opAdd] at e
    by_cases h : a.length + b.length ≤ lim
    · rw [if_pos h] at e
      cases e
      obtain ⟨p, vs, rfl, h1, h2⟩ := hx.lst R.ext
      obtain ⟨p', ws, rfl, h3, h4⟩ := hy.lst R.ext
      exact ⟨_, op_cat, p, p', vs, ws, rfl, rfl, h1, h3, by rw [← h2.len, ← h4.len]; exact Nat.le_trans h lim_le, q.lst R (h2.append h4)⟩
    · rw [if_neg h] at e
      cases e
theorem os_sub : OpS X E (binaryOp .Sub) opSub := op_cases fun v w H Q ⟨σ, st, φ, I, x, y, r, R, hx, hy, e, q⟩ => by
  cases x <;> try (simp [opSub] at e; done)
  all_goals cases y <;> try (simp [opSub] at e; done)
  simp only [opSub, Option.some.injEq] at e
  subst e
  exact ⟨_, op_sub, _, _, hx.int, hy.int, q.sh R (.int _)⟩
theorem os_mul : OpS X E (binaryOp .Mult) opMul := op_cases fun v w H Q ⟨σ, st, φ, I, x, y, r, R, hx, hy, e, q⟩ => by
  cases x <;> try (simp [opMul] at e; done)
  all_goals cases y <;> try (simp [opMul] at e; done)
  rename_i i j
  simp only [opMul] at e
  by_cases h : (sml i && sml j) = true
  · rw [if_pos h] at e
    cases e
    have h1 := of_decide_eq_true (Bool.and_eq_true_iff.mp h).1
    have h2 := of_decide_eq_true (Bool.and_eq_true_iff.mp h).2
    exact ⟨_, op_mulW, _, _, hx.int, hy.int, by unfold CMulW; omega, q.sh R (.int _)⟩
  · rw [if_neg h] at e
    cases e
theorem op_fdivX : OpR X (binaryOp .FloorDiv) (rI (fun _ j => j ≠ 0 ∧ j.natAbs.log2 < 9000) fun i j => .int (i.fdiv j)) := opI fun i j _ _ _ _ _ hc q => PyProof.Rows.floordiv_int hc.1 q (.inl (PyProof.noPylong_of_log2 hc.2))
theorem os_fdv : OpS X E (binaryOp .FloorDiv) opFdv := op_cases fun v w H Q ⟨σ, st, φ, I, x, y, r, R, hx, hy, e, q⟩ => by
  cases x <;> try (simp [opFdv] at e; done)
  all_goals cases y <;> try (simp [opFdv] at e; done)
  rename_i i j
  simp only [opFdv] at e
  by_cases h : 0 < j ∧ j.natAbs.log2 < 9000
  · rw [if_pos h] at e
    cases e
    exact ⟨_, op_fdivW, _, _, hx.int, hy.int, h, q.sh R (.int _)⟩
  · rw [if_neg h] at e
    by_cases h : j < 0 ∧ j.natAbs.log2 < 9000
    · rw [if_pos h] at e
      cases e
      exact ⟨_, op_fdivX, _, _, hx.int, hy.int, ⟨by omega, h.2⟩, q.sh R (.int _)⟩
    · rw [if_neg h] at e
      cases e
theorem os_mod : OpS X E (binaryOp .Mod) opMod := op_cases fun v w H Q ⟨σ, st, φ, I, x, y, r, R, hx, hy, e, q⟩ => by
  cases x <;> try (simp [opMod] at e; done)
  all_goals cases y <;> try (simp [opMod] at e; done)
  rename_i i j
  simp only [opMod] at e
  by_cases h : 0 < j
  · rw [if_pos h] at e
    cases e
    exact ⟨_, op_mod, _, _, hx.int, hy.int, h, q.sh R (.int _)⟩
  · rw [if_neg h] at e
    cases e
theorem os_pow : OpS X E (binaryOp .Pow) opPow := op_cases fun v w H Q ⟨σ, st, φ, I, x, y, r, R, hx, hy, e, q⟩ => by
  cases x <;> try (simp [opPow] at e; done)
  all_goals cases y <;> try (simp [opPow] at e; done)
  rename_i i j
  simp only [opPow] at e
  by_cases h : 0 ≤ j ∧ j ≤ 1000 ∧ i.natAbs < 2 ^ 64
  · rw [if_pos h] at e
    cases e
    exact ⟨_, op_pow, _, _, hx.int, hy.int, ⟨h.1, by omega, h.2.2⟩, q.sh R (.int _)⟩
  · rw [if_neg h] at e
    cases e
theorem un_cases {f : Value → Sem Value} {r : V → Hp → VK → Prop} (h : ∀ v H Q, r v H Q → ∃ r', UnR X f r' ∧ r' v H Q) : UnR X f r := fun pins s σ H x v Q I rx q => by
  obtain ⟨r', h1, h2⟩ := h _ _ _ q
  exact h1 pins s σ H x v Q I rx h2
theorem us_neg : UnR X (unaryOp .USub) (rdU X.K E opNeg) := un_cases fun v H Q ⟨σ, st, φ, I, x, r, R, hx, e, q⟩ => by
  cases x <;> try (simp [opNeg] at e; done)
  simp only [opNeg, Option.some.injEq] at e
  subst e
  exact ⟨_, un_neg, _, hx.int, q.sh R (.int _)⟩
/-! ### order, equality -/
def opLt : D → D → Option Bool
  | .int i, .int j => some (decide (i < j))
  | .str a, .str b => some (decide (a.cps.toList < b.cps.toList))
  | _, _ => none
def opLe : D → D → Option Bool
  | .int i, .int j => some (decide (i ≤ j))
  | .str a, .str b => some (!decide (b.cps.toList < a.cps.toList))
  | _, _ => none
def opGt : D → D → Option Bool
  | .int i, .int j => some (decide (j < i))
  | .str a, .str b => some (decide (b.cps.toList < a.cps.toList))
  | _, _ => none
def opGe : D → D → Option Bool
  | .int i, .int j => some (decide (j ≤ i))
  | .str a, .str b => some (!decide (a.cps.toList < b.cps.toList))
  | _, _ => none
theorem ob_lt : OpB X E (compareOp .Lt) opLt := op_cases fun v w H Q ⟨σ, st, φ, I, x, y, r, R, hx, hy, e, q⟩ => by
  cases x <;> try (simp [opLt] at e; done)
  all_goals cases y <;> try (simp [opLt] at e; done)
  all_goals (simp only [opLt, Option.some.injEq] at e; subst e)
  · exact ⟨_, op_lt, _, _, hx.int, hy.int, q⟩
  · exact ⟨_, op_lt_str, _, _, hx.str, hy.str, q⟩
theorem ob_le : OpB X E (compareOp .LtE) opLe := op_cases fun v w H Q ⟨σ, st, φ, I, x, y, r, R, hx, hy, e, q⟩ => by
  cases x <;> try (simp [opLe] at e; done)
  all_goals cases y <;> try (simp [opLe] at e; done)
  all_goals (simp only [opLe, Option.some.injEq] at e; subst e)
  · exact ⟨_, op_le, _, _, hx.int, hy.int, q⟩
  · exact ⟨_, op_le_str, _, _, hx.str, hy.str, q⟩
theorem ob_gt : OpB X E (compareOp .Gt) opGt := op_cases fun v w H Q ⟨σ, st, φ, I, x, y, r, R, hx, hy, e, q⟩ => by
  cases x <;> try (simp [opGt] at e; done)
  all_goals cases y <;> try (simp [opGt] at e; done)
  all_goals (simp only [opGt, Option.some.injEq] at e; subst e)
  · exact ⟨_, op_gt, _, _, hx.int, hy.int, q⟩
  · exact ⟨_, op_gt_str, _, _, hx.str, hy.str, q⟩
theorem ob_ge : OpB X E (compareOp .GtE) opGe := op_cases fun v w H Q ⟨σ, st, φ, I, x, y, r, R, hx, hy, e, q⟩ => by
  cases x <;> try (simp [opGe] at e; done)
  all_goals cases y <;> try (simp [opGe] at e; done)
  all_goals (simp only [opGe, Option.some.injEq] at e; subst e)
  · exact ⟨_, op_ge, _, _, hx.int, hy.int, q⟩
  · exact ⟨_, op_ge_str, _, _, hx.str, hy.str, q⟩
mutual
def D.py : D → Option PyData
  | .non => some .none
  | .bl b => some (.bool b)
  | .int i => some (.int i)
  | .str s => some (.str s)
  | .tup ds => (D.pys ds).map .tuple
  | .tpF ds => (D.pys ds).map .tuple
  | .lst ds => (D.pys ds).map .list
  | .lsF ds => (D.pys ds).map .list
  | _ => none
def D.pys : List D → Option (List PyData)
  | [] => some []
  | d :: ds => (D.py d).bind fun p => (D.pys ds).map fun ps => p :: ps
end
theorem dp_of {K : PySem.W.Frag} {φ : List Addr} {I H : Hp} (hx : Ex I H) {d : D} {v : V} (h : Rv K φ I d v) : ∀ {p : PyData}, D.py d = some p → Dp K H v p := by
  refine Rv.rec (motive_1 := fun d v _ => ∀ {p : PyData}, D.py d = some p → Dp K H v p) (motive_2 := fun ds vs _ => ∀ {ps : List PyData}, D.pys ds = some ps → DpAll K H vs ps) ?_ ?_ ?_ ?_ ?_ ?_ ?_ ?_ ?_ ?_ ?_ ?_ ?_ ?_ ?_ ?_ ?_ ?_ h
  · intro p e; simp only [D.py, Option.some.injEq] at e; subst e; exact .non
  · intro b p e; simp only [D.py, Option.some.injEq] at e; subst e; exact .bl b
  · intro i p e; simp only [D.py, Option.some.injEq] at e; subst e; exact .int i
  · intro s p e; simp only [D.py, Option.some.injEq] at e; subst e; exact .str s
  · intro a vs ds h1 _ ih p e
    simp only [D.py] at e
    obtain ⟨ps, e1, rfl⟩ := Option.map_eq_some_iff.mp e
    exact .tup (.inl (.inl (hx _ _ h1))) (ih e1)
  · intro a vs ds h1 _ ih p e
    simp only [D.py] at e
    obtain ⟨ps, e1, rfl⟩ := Option.map_eq_some_iff.mp e
    exact .tup (sqT_mono hx h1) (ih e1)
  · intro a vs ds h1 _ ih p e
    simp only [D.py] at e
    obtain ⟨ps, e1, rfl⟩ := Option.map_eq_some_iff.mp e
    exact .lst (.inl (.inl (hx _ _ h1))) (ih e1)
  · intro a vs ds h1 _ ih p e
    simp only [D.py] at e
    obtain ⟨ps, e1, rfl⟩ := Option.map_eq_some_iff.mp e
    exact .lst (sqL_mono hx h1) (ih e1)
  · intro a us kvs od h1 h2 _ ih p e; simp [D.py] at e
  · intro a us kvs od h1 h2 _ ih p e; simp [D.py] at e
  · intro n a h1 p e; simp [D.py] at e
  · intro C a dx us fs h1 h2 _ ih p e; simp [D.py] at e
  · intro C a h1 p e; simp [D.py] at e
  · intro C a dx us fs h1 h2 h3 _ ih p e; simp [D.py] at e
  · intro C p e; simp [D.py] at e
  · intro v p e; simp [D.py] at e
  · intro ps e; simp only [D.pys, Option.some.injEq] at e; subst e; exact .nil
  · intro d v ds vs _ _ ih1 ih2 ps e
    simp only [D.pys] at e
    obtain ⟨p, e1, e2⟩ := Option.bind_eq_some_iff.mp e
    obtain ⟨qs, e3, rfl⟩ := Option.map_eq_some_iff.mp e2
    exact .cons (ih1 e1) (ih2 e3)
theorem dps_of {K : PySem.W.Frag} {φ : List Addr} {I H : Hp} (hx : Ex I H) {ds : List D} {vs : List V} (h : Rvs K φ I ds vs) {ps : List PyData} (e : D.pys ds = some ps) : DpAll K H vs ps := by
  induction ds generalizing vs ps with
  | nil => cases h; simp only [D.pys, Option.some.injEq] at e; subst e; exact .nil
  | cons d ds ih =>
    cases h with
    | cons h1 h2 =>
      simp only [D.pys] at e
      obtain ⟨p, e1, e2⟩ := Option.bind_eq_some_iff.mp e
      obtain ⟨qs, e3, rfl⟩ := Option.map_eq_some_iff.mp e2
      exact .cons (dp_of hx h1 e1) (ih h2 e3)
theorem Seen.dp {K : PySem.W.Frag} {φ : List Addr} {I H : Hp} {v : V} {d : D} {p : PyData} (hx : Ex I H) (h : Seen K φ I H d v) (e : D.py d = some p) : Dp K H v p := by
  rcases h with h | ⟨a, c, rfl, rfl, o, h1, h2, h3⟩
  · exact dp_of hx h e
  · cases h3 with
    | ls h3 =>
      simp only [Cell.frz, D.py] at e
      obtain ⟨ps, e1, rfl⟩ := Option.map_eq_some_iff.mp e
      exact .lst (.inl (.inl h1)) (dps_of hx h3 e1)
    | dc _ _ => simp [Cell.frz, D.py] at e
    | dt _ _ => simp [Cell.frz, D.py] at e
    | ins _ _ => simp [Cell.frz, D.py] at e
    | tab _ _ => simp [Cell.frz, D.py] at e
def opEq0 (x y : D) : Option Bool := x.py.bind fun p => y.py.bind fun q => if SeqAt.shaped p && SeqAt.shaped q then some (PyData.eqv p q) else none
/-- two lists of other lengths -/
def lenDiff (x y : D) : Bool := match asL x, asL y with
  | some a, some b => a.length != b.length
  | _, _ => false
/-- two dicts: of other lengths, or empty -/
def dctEq (ks ls : List (Key × D)) : Option Bool := if ks.length = ls.length then (if ks.isEmpty then some true else none) else some false
def opEq (x y : D) : Option Bool := match x, y with
  | .str a, .str b => some (a == b)
  | .dct ks, .dct ls => dctEq ks ls
  | .tup (_ :: _), .tup [] => some false
  | x, y => if lenDiff x y then some false else opEq0 x y
def opNe (x y : D) : Option Bool := (opEq x y).map (!·)
theorem opEq0_some {x y : D} {b : Bool} (e : opEq0 x y = some b) : ∃ p q, x.py = some p ∧ y.py = some q ∧ SeqAt.shaped p = true ∧ SeqAt.shaped q = true ∧ b = PyData.eqv p q := by
  unfold opEq0 at e
  obtain ⟨p, e1, e⟩ := Option.bind_eq_some_iff.mp e
  obtain ⟨q, e2, e⟩ := Option.bind_eq_some_iff.mp e
  by_cases h : (SeqAt.shaped p && SeqAt.shaped q) = true
  · rw [if_pos h] at e
    exact ⟨p, q, e1, e2, (Bool.and_eq_true_iff.mp h).1, (Bool.and_eq_true_iff.mp h).2, (Option.some.inj e).symm⟩
  · rw [if_neg h] at e
    cases e
@[simp] theorem lenDiff_t {ds : List D} {y : D} : lenDiff (.tup ds) y = false := rfl
@[simp] theorem lenDiff_n {y : D} : lenDiff .non y = false := rfl
@[simp] theorem lenDiff_i {i : Int} {y : D} : lenDiff (.int i) y = false := rfl
@[simp] theorem lenDiff_b {i : Bool} {y : D} : lenDiff (.bl i) y = false := rfl
@[simp] theorem lenDiff_s {i : Str} {y : D} : lenDiff (.str i) y = false := rfl
@[simp] theorem lenDiff_l {ds es : List D} : lenDiff (.lst ds) (.lst es) = (ds.length != es.length) := rfl
theorem lenDiff_some {x y : D} (h : lenDiff x y = true) : ∃ a b, asL x = some a ∧ asL y = some b ∧ a.length ≠ b.length := by
  unfold lenDiff at h
  split at h
  · rename_i a b h1 h2
    exact ⟨a, b, h1, h2, by simpa using h⟩
  · cases h
theorem opEq_some {x y : D} {b : Bool} (e : opEq x y = some b) : (∃ ks ls, x = .dct ks ∧ y = .dct ls ∧ dctEq ks ls = some b) ∨ (∃ a c, x = .str a ∧ y = .str c ∧ b = (a == c)) ∨ (b = false ∧ ∃ a c, asL x = some a ∧ asL y = some c ∧ a.length ≠ c.length) ∨ (b = false ∧ ∃ d ds, x = .tup (d :: ds) ∧ y = .tup []) ∨ opEq0 x y = some b := by
  unfold opEq at e
  split at e
  · exact .inr (.inl ⟨_, _, rfl, rfl, (Option.some.inj e).symm⟩)
  · exact .inl ⟨_, _, rfl, rfl, e⟩
  · exact .inr (.inr (.inr (.inl ⟨(Option.some.inj e).symm, _, _, rfl, rfl⟩)))
  · split at e
    · rename_i h
      exact .inr (.inr (.inl ⟨(Option.some.inj e).symm, lenDiff_some h⟩))
    · exact .inr (.inr (.inr (.inr e)))
theorem pys_nil {ds : List D} (h : D.pys ds = some []) : ds = [] := by
  cases ds with
  | nil => rfl
  | cons d ds =>
    obtain ⟨p, e1, e2⟩ := Option.bind_eq_some_iff.mp (show (D.py d).bind (fun p => (D.pys ds).map fun ps => p :: ps) = _ from h)
    obtain ⟨_, _, e3⟩ := Option.map_eq_some_iff.mp e2
    cases e3
/-- what the data of a tuple tell -/
theorem opEq_t {ds : List D} {y : D} {b : Bool} (h : opEq0 (.tup ds) y = some b) : opEq (.tup ds) y = some b := by
  unfold opEq
  split
  · next e => cases e
  · next e => cases e
  · next d es e =>
    cases e
    obtain ⟨p, q, e1, e2, s1, s2, rfl⟩ := opEq0_some h
    obtain ⟨ps, e3, rfl⟩ := Option.map_eq_some_iff.mp (show (D.pys (d :: es)).map PyData.tuple = _ from e1)
    cases (show some (PyData.tuple []) = some q from e2)
    cases ps with
    | nil => cases pys_nil e3
    | cons p ps => simp [PyData.eqv, PyData.eqvAll]
  · exact h
@[simp] theorem opEq_tn {d : D} {ds : List D} : opEq (.tup (d :: ds)) (.tup []) = some false := rfl
@[simp] theorem opEq_nn : opEq (.tup []) (.tup []) = some true := opEq_t (by simp [opEq0, D.py, D.pys, SeqAt.shaped, PyData.canLay0, PyData.canLayAll0, PyData.depth, PyData.depthAll, PyData.eqv, PyData.eqvAll])
theorem opEq_l0 (ds : List D) : opEq (.lst ds) (.lst []) = some ds.isEmpty := by
  cases ds with
  | nil =>
    show (if lenDiff (.lst []) (.lst []) then some false else opEq0 (.lst []) (.lst [])) = _
    rw [lenDiff_l]
    simp [opEq0, D.py, D.pys, SeqAt.shaped, PyData.canLay0, PyData.canLayAll0, PyData.depth, PyData.depthAll, PyData.eqv, PyData.eqvAll]
  | cons d ds =>
    show (if lenDiff (.lst (d :: ds)) (.lst []) then some false else opEq0 (.lst (d :: ds)) (.lst [])) = _
    rw [lenDiff_l]
    rfl
theorem opNe_l0 (ds : List D) : opNe (.lst ds) (.lst []) = some (!ds.isEmpty) := by
  unfold opNe
  rw [opEq_l0]
  rfl
theorem seen_dct {K : PySem.W.Frag} {φ : List Addr} {I H : Hp} {kvs : List (Key × D)} {v : V} (hx : Ex I H) (h : Seen K φ I H (.dct kvs) v) : ∃ a us, v = .ref a ∧ Rd H a (.dK us) ∧ us.map (·.1) = kvs.map (·.1) ∧ Rvs K φ I (kvs.map (·.2)) (us.map (·.2)) := by
  rcases h with h | ⟨a, c, rfl, e, o, h1, h2, h3⟩
  · cases h with
    | dct h1 h2 h3 => exact ⟨_, _, rfl, .inr ⟨_, hx _ _ h1⟩, h2, h3⟩
  · cases c <;> cases e
    cases h3 with
    | dc k1 k2 => exact ⟨a, _, rfl, .inl h1, k1, k2⟩
def rEqDc : L2.R2 := fun x y H Q => ∃ a b us ws r, x = .ref a ∧ y = .ref b ∧ Rd H a (.dK us) ∧ Rd H b (.dK ws) ∧ (us.length = ws.length → us = [] ∧ r = true) ∧ Q (.bl (us.length == ws.length && r)) H
def rNeDc : L2.R2 := fun x y H Q => ∃ a b us ws r, x = .ref a ∧ y = .ref b ∧ Rd H a (.dK us) ∧ Rd H b (.dK ws) ∧ (us.length = ws.length → us = [] ∧ r = true) ∧ Q (.bl (!(us.length == ws.length && r))) H
theorem kv_len : ∀ {us : List (Key × V)} {vs : List (Key × Value)}, KV us vs → us.length = vs.length
  | _, _, .nil => rfl
  | _, _, .cons _ r => by rw [List.length_cons, List.length_cons, kv_len r]
theorem op_eqDc (hu : X.A.units + 64 < cLine) : L2.OpR X (compareOp .Eq) rEqDc := by
  intro pins s σ H x y v u Q I rx ry h
  obtain ⟨a, b, us, ws, r, rfl, rfl, ha, hb, hl, q⟩ := h
  cases (show v = Value.ref a from rx)
  cases (show u = Value.ref b from ry)
  obtain ⟨_, ya, va, ra, da⟩ := dk_rd I.hok ha
  obtain ⟨_, yb, vb, rb, db⟩ := dk_rd I.hok hb
  have l1 := kv_len ra
  have l2 := kv_len rb
  refine PySem.W.keq_eq (knd := mixKind X.prog X.w) (r := r) ya yb da db (by omega) (fun e => ?_) ?_
  · obtain ⟨z, rfl⟩ := hl (by omega)
    rw [z, List.length_nil] at l1
    rw [List.eq_nil_of_length_eq_zero l1.symm]
    exact .nil
  · rw [← l1, ← l2]
    exact ⟨.bl _, H, I, rfl, q⟩
theorem op_neDc (hu : X.A.units + 64 < cLine) : L2.OpR X (compareOp .NotEq) rNeDc := by
  intro pins s σ H x y v u Q I rx ry h
  obtain ⟨a, b, us, ws, r, rfl, rfl, ha, hb, hl, q⟩ := h
  cases (show v = Value.ref a from rx)
  cases (show u = Value.ref b from ry)
  obtain ⟨_, ya, va, ra, da⟩ := dk_rd I.hok ha
  obtain ⟨_, yb, vb, rb, db⟩ := dk_rd I.hok hb
  have l1 := kv_len ra
  have l2 := kv_len rb
  refine PySem.W.keq_ne (knd := mixKind X.prog X.w) (r := r) ya yb da db (by omega) (fun e => ?_) ?_
  · obtain ⟨z, rfl⟩ := hl (by omega)
    rw [z, List.length_nil] at l1
    rw [List.eq_nil_of_length_eq_zero l1.symm]
    exact .nil
  · rw [← l1, ← l2]
    exact ⟨.bl _, H, I, rfl, q⟩
theorem dctEq_rd {K : PySem.W.Frag} {φ : List Addr} {I H : Hp} {ks ls : List (Key × D)} {v w : V} {b : Bool} (hx : Ex I H) (h1 : Seen K φ I H (.dct ks) v) (h2 : Seen K φ I H (.dct ls) w) (e : dctEq ks ls = some b) :
    ∃ a c us ws, v = .ref a ∧ w = .ref c ∧ Rd H a (.dK us) ∧ Rd H c (.dK ws) ∧ (us.length = ws.length → us = [] ∧ true = true) ∧ (us.length == ws.length && true) = b := by
  obtain ⟨a, us, rfl, a1, a2, _⟩ := seen_dct hx h1
  obtain ⟨c, ws, rfl, c1, c2, _⟩ := seen_dct hx h2
  have l1 : us.length = ks.length := by have := congrArg List.length a2; simpa using this
  have l2 : ws.length = ls.length := by have := congrArg List.length c2; simpa using this
  unfold dctEq at e
  refine ⟨a, c, us, ws, rfl, rfl, a1, c1, fun z => ?_, ?_⟩
  · rw [if_pos (by omega)] at e
    by_cases hk : ks.isEmpty = true
    · have : ks = [] := List.isEmpty_iff.mp hk
      subst this
      exact ⟨List.eq_nil_of_length_eq_zero l1, rfl⟩
    · rw [if_neg hk] at e; cases e
  · by_cases hl : ks.length = ls.length
    · rw [if_pos hl] at e
      by_cases hk : ks.isEmpty = true
      · rw [if_pos hk] at e
        cases e
        simp only [Bool.and_true, beq_iff_eq]; omega
      · rw [if_neg hk] at e; cases e
    · rw [if_neg hl] at e
      cases e
      simp only [Bool.and_true, beq_eq_false_iff_ne, ne_eq]; omega
@[simp] theorem opEq_d0 {ks : List (Key × D)} : opEq (.dct ks) (.dct []) = some ks.isEmpty := by
  cases ks <;> rfl
@[simp] theorem opNe_d0 {ks : List (Key × D)} : opNe (.dct ks) (.dct []) = some (!ks.isEmpty) := by
  cases ks <;> rfl
def rEqL (K : PySem.W.Frag) : L2.R2 := fun x y H Q => ∃ a b xs ys, x = .ref a ∧ y = .ref b ∧ SqL K H a xs ∧ SqL K H b ys ∧ xs.length ≠ ys.length ∧ Q (.bl false) H
def rNeL (K : PySem.W.Frag) : L2.R2 := fun x y H Q => ∃ a b xs ys, x = .ref a ∧ y = .ref b ∧ SqL K H a xs ∧ SqL K H b ys ∧ xs.length ≠ ys.length ∧ Q (.bl true) H
theorem op_eqL (hu : X.A.units + 64 < cLine) : L2.OpR X (compareOp .Eq) (rEqL X.K) := by
  intro pins s σ H x y v u Q I rx ry h
  obtain ⟨a, b, xs, ys, rfl, rfl, ha, hb, hl, q⟩ := h
  cases (show v = Value.ref a from rx)
  cases (show u = Value.ref b from ry)
  obtain ⟨us, r1, p1, _⟩ := I.list ha
  obtain ⟨ws, r2, p2, _⟩ := I.list hb
  have hsz : (us.toArray.size != ws.toArray.size) = true := by
    have h1 := r1.length
    have h2 := r2.length
    simp only [List.size_toArray, bne_iff_ne, ne_eq]
    omega
  exact PySem.EqBoolInt.of_rc (SeqAt.RcAt.lists_lengths p1.isList p2.isList hsz (by omega)) ⟨.bl _, H, I, rfl, q⟩
theorem op_neL (hu : X.A.units + 64 < cLine) : L2.OpR X (compareOp .NotEq) (rNeL X.K) := by
  intro pins s σ H x y v u Q I rx ry h
  obtain ⟨a, b, xs, ys, rfl, rfl, ha, hb, hl, q⟩ := h
  cases (show v = Value.ref a from rx)
  cases (show u = Value.ref b from ry)
  obtain ⟨us, r1, p1, _⟩ := I.list ha
  obtain ⟨ws, r2, p2, _⟩ := I.list hb
  have hsz : (us.toArray.size != ws.toArray.size) = true := by
    have h1 := r1.length
    have h2 := r2.length
    simp only [List.size_toArray, bne_iff_ne, ne_eq]
    omega
  exact PySem.EqBoolInt.of_rcne (SeqAt.RcNeAt.lists_lengths p1.isList p2.isList hsz (by omega)) ⟨.bl _, H, I, rfl, q⟩
def rEqTn (K : PySem.W.Frag) : L2.R2 := fun x y H Q => ∃ a b xs, x = .ref a ∧ y = .ref b ∧ SqT K H a xs ∧ SqT K H b [] ∧ xs ≠ [] ∧ Q (.bl false) H
def rNeTn (K : PySem.W.Frag) : L2.R2 := fun x y H Q => ∃ a b xs, x = .ref a ∧ y = .ref b ∧ SqT K H a xs ∧ SqT K H b [] ∧ xs ≠ [] ∧ Q (.bl true) H
theorem op_eqTn (hu : X.A.units + 64 < cLine) : L2.OpR X (compareOp .Eq) (rEqTn X.K) := by
  intro pins s σ H x y v u Q I rx ry h
  obtain ⟨a, b, xs, rfl, rfl, ha, hb, hl, q⟩ := h
  cases (show v = Value.ref a from rx)
  cases (show u = Value.ref b from ry)
  obtain ⟨us, r1, p1, _⟩ := I.tuple ha
  obtain ⟨ws, r2, p2, _⟩ := I.tuple hb
  have h1 := r1.length
  have h2 := r2.length
  have hx := List.length_pos_iff.mpr hl
  have hz : ws.toArray.size = 0 := by simp only [List.size_toArray]; simpa using h2.symm
  have e : ((List.range (min us.toArray.size ws.toArray.size)).all (fun _ => false) && us.toArray.size == ws.toArray.size) = false := by
    rw [hz]
    have : (us.toArray.size == 0) = false := by simp only [List.size_toArray, beq_eq_false_iff_ne, ne_eq]; omega
    rw [this, Bool.and_false]
  have rc := SeqAt.RcAt.tuples (A := X.A) (s := s) (e := fun _ => false) p1 p2 (by omega) (fun j j1 j2 => absurd j2 (by omega))
  rw [e] at rc
  exact PySem.EqBoolInt.of_rc rc ⟨.bl _, H, I, rfl, q⟩
theorem op_neTn (hu : X.A.units + 64 < cLine) : L2.OpR X (compareOp .NotEq) (rNeTn X.K) := by
  intro pins s σ H x y v u Q I rx ry h
  obtain ⟨a, b, xs, rfl, rfl, ha, hb, hl, q⟩ := h
  cases (show v = Value.ref a from rx)
  cases (show u = Value.ref b from ry)
  obtain ⟨us, r1, p1, _⟩ := I.tuple ha
  obtain ⟨ws, r2, p2, _⟩ := I.tuple hb
  have h1 := r1.length
  have h2 := r2.length
  have hx := List.length_pos_iff.mpr hl
  have hz : ws.toArray.size = 0 := by simp only [List.size_toArray]; simpa using h2.symm
  have e : (!((List.range (min us.toArray.size ws.toArray.size)).all (fun _ => false) && us.toArray.size == ws.toArray.size)) = true := by
    rw [hz]
    have : (us.toArray.size == 0) = false := by simp only [List.size_toArray, beq_eq_false_iff_ne, ne_eq]; omega
    rw [this, Bool.and_false]
    rfl
  have rc := SeqAt.RcNeAt.tuples (A := X.A) (s := s) (e := fun _ => false) p1 p2 (by omega) (fun j j1 j2 => absurd j2 (by omega))
  rw [e] at rc
  exact PySem.EqBoolInt.of_rcne rc ⟨.bl _, H, I, rfl, q⟩
def rEqT : L2.R2 := fun x y H Q => ∃ a c, x = .str a ∧ y = .str c ∧ Q (.bl (a == c)) H
def rNeT : L2.R2 := fun x y H Q => ∃ a c, x = .str a ∧ y = .str c ∧ Q (.bl (!(a == c))) H
theorem op_eqT : L2.OpR X (compareOp .Eq) rEqT := by
  intro pins s σ H x y v u Q I rx ry h
  obtain ⟨a, c, rfl, rfl, q⟩ := h
  obtain ⟨t1, rfl⟩ := rx
  obtain ⟨t2, rfl⟩ := ry
  exact PyProof.Rows.eq_str ⟨.bl _, H, I, rfl, q⟩
theorem op_neT : L2.OpR X (compareOp .NotEq) rNeT := by
  intro pins s σ H x y v u Q I rx ry h
  obtain ⟨a, c, rfl, rfl, q⟩ := h
  obtain ⟨t1, rfl⟩ := rx
  obtain ⟨t2, rfl⟩ := ry
  exact PyProof.Rows.ne_str ⟨.bl _, H, I, rfl, q⟩
theorem ob_eq (hu : X.A.units + 64 < cLine) : OpB X E (compareOp .Eq) opEq := op_cases fun v w H Q ⟨σ, st, φ, I, x, y, r, R, hx, hy, e, q⟩ => by
  rcases opEq_some e with ⟨ks, ls, rfl, rfl, e1⟩ | ⟨a, c, rfl, rfl, rfl⟩ | ⟨rfl, ds, es, e1, e2, hl⟩ | ⟨rfl, d, ds, rfl, rfl⟩ | e
  · obtain ⟨a, c, us, ws, g1, g2, g3, g4, g5, rfl⟩ := dctEq_rd R.ext hx hy e1
    exact ⟨_, op_eqDc hu, a, c, us, ws, true, g1, g2, g3, g4, g5, q⟩
  · exact ⟨_, op_eqT, a, c, hx.str, hy.str, q⟩
  · obtain ⟨a1, vs1, rfl, h1, k1⟩ := hx.asL R.ext e1
    obtain ⟨a2, vs2, rfl, h2, k2⟩ := hy.asL R.ext e2
    exact ⟨_, op_eqL hu, a1, a2, vs1, vs2, rfl, rfl, h1, h2, by rw [← k1.len, ← k2.len]; exact hl, q⟩
  · obtain ⟨a1, vs1, rfl, h1, k1⟩ := hx.asT R.ext rfl
    obtain ⟨a2, vs2, rfl, h2, k2⟩ := hy.asT R.ext rfl
    cases k2
    have h2' : SqT X.K H a2 [] := h2
    exact ⟨_, op_eqTn hu, a1, a2, vs1, rfl, rfl, h1, h2', (fun z => by subst z; cases k1), q⟩
  obtain ⟨p1, p2, e1, e2, s1, s2, rfl⟩ := opEq0_some e
  exact ⟨_, op_eqD hu, p1, p2, hx.dp R.ext e1, hy.dp R.ext e2, s1, s2, q⟩
theorem ob_ne (hu : X.A.units + 64 < cLine) : OpB X E (compareOp .NotEq) opNe := op_cases fun v w H Q ⟨σ, st, φ, I, x, y, r, R, hx, hy, e, q⟩ => by
  obtain ⟨b, e', rfl⟩ := Option.map_eq_some_iff.mp e
  rcases opEq_some e' with ⟨ks, ls, rfl, rfl, e1⟩ | ⟨a, c, rfl, rfl, rfl⟩ | ⟨rfl, ds, es, e1, e2, hl⟩ | ⟨rfl, d, ds, rfl, rfl⟩ | e'
  · obtain ⟨a, c, us, ws, g1, g2, g3, g4, g5, rfl⟩ := dctEq_rd R.ext hx hy e1
    exact ⟨_, op_neDc hu, a, c, us, ws, true, g1, g2, g3, g4, g5, q⟩
  · exact ⟨_, op_neT, a, c, hx.str, hy.str, q⟩
  · obtain ⟨a1, vs1, rfl, h1, k1⟩ := hx.asL R.ext e1
    obtain ⟨a2, vs2, rfl, h2, k2⟩ := hy.asL R.ext e2
    exact ⟨_, op_neL hu, a1, a2, vs1, vs2, rfl, rfl, h1, h2, by rw [← k1.len, ← k2.len]; exact hl, q⟩
  · obtain ⟨a1, vs1, rfl, h1, k1⟩ := hx.asT R.ext rfl
    obtain ⟨a2, vs2, rfl, h2, k2⟩ := hy.asT R.ext rfl
    cases k2
    have h2' : SqT X.K H a2 [] := h2
    exact ⟨_, op_neTn hu, a1, a2, vs1, rfl, rfl, h1, h2', (fun z => by subst z; cases k1), q⟩
  obtain ⟨p1, p2, e1, e2, s1, s2, rfl⟩ := opEq0_some e'
  exact ⟨_, op_neD hu, p1, p2, hx.dp R.ext e1, hy.dp R.ext e2, s1, s2, q⟩
/-- x is None, x is not None -/
def D.isNon : D → Bool
  | .non => true
  | _ => false
theorem Seen.isN {K : PySem.W.Frag} {φ : List Addr} {I H : Hp} {v : V} {d : D} (h : Seen K φ I H d v) (hv : ∀ u, d ≠ .val u) : decide (v = .non) = d.isNon := by
  cases d with
  | non => rw [h.non]; rfl
  | val u => exact absurd rfl (hv u)
  | _ =>
    rcases h with h | ⟨a, c, rfl, e, _⟩
    · cases h <;> rfl
    · rfl
def isVal : D → Bool
  | .val _ => true
  | _ => false
def opIs (x y : D) : Option Bool := if isVal x then none else match y with
  | .non => some x.isNon
  | _ => none
def opIsNot (x y : D) : Option Bool := (opIs x y).map (!·)
theorem opIs_some {x y : D} {b : Bool} (e : opIs x y = some b) : y = .non ∧ (∀ u, x ≠ .val u) ∧ b = x.isNon := by
  unfold opIs at e
  by_cases h : isVal x = true
  · rw [if_pos h] at e; cases e
  · rw [if_neg h] at e
    cases y <;> simp only [Option.some.injEq, reduceCtorEq] at e
    exact ⟨rfl, fun u z => h (by rw [z]; rfl), e.symm⟩
theorem ob_is : OpB X E (compareOp .Is) opIs := op_cases fun v w H Q ⟨σ, st, φ, I, x, y, r, R, hx, hy, e, q⟩ => by
  obtain ⟨rfl, hv, rfl⟩ := opIs_some e
  refine ⟨_, op_isN, hy.non, ?_⟩
  rw [hx.isN hv]
  exact q
theorem ob_isnot : OpB X E (compareOp .IsNot) opIsNot := op_cases fun v w H Q ⟨σ, st, φ, I, x, y, r, R, hx, hy, e, q⟩ => by
  obtain ⟨b, e', rfl⟩ := Option.map_eq_some_iff.mp e
  obtain ⟨rfl, hv, rfl⟩ := opIs_some e'
  refine ⟨_, op_notN, hy.non, ?_⟩
  rw [hx.isN hv]
  exact q
end
end PM
set_option Elab.async false
set_option linter.all false
set_option maxRecDepth 100000
set_option maxHeartbeats 1200000
namespace PM
open PySem PySem.Spec L2
/-! ### tables -/
section
variable {κ : Type} [DecidableEq κ]
def dget (kvs : List (κ × D)) (k : κ) : Option D := (kvs.find? fun kv => decide (kv.1 = k)).map (·.2)
def dput (kvs : List (κ × D)) (k : κ) (d : D) : List (κ × D) :=
  if (kvs.any fun kv => decide (kv.1 = k)) = true then kvs.map (fun kv => if kv.1 = k then (kv.1, d) else kv) else kvs ++ [(k, d)]
variable {K : PySem.W.Frag} {φ : List Addr} {I : Hp}
theorem dget_rel : ∀ {kvs : List (κ × D)} {us : List (κ × V)} {k : κ}, us.map (·.1) = kvs.map (·.1) → Rvs K φ I (kvs.map (·.2)) (us.map (·.2)) → (∃ d v, dget kvs k = some d ∧ valV us k = some v ∧ Rv K φ I d v) ∨ (dget kvs k = none ∧ valV us k = none)
  | [], [], k, _, _ => .inr ⟨rfl, rfl⟩
  | [], _ :: _, _, h, _ => by cases h
  | _ :: _, [], _, h, _ => by cases h
  | (a, d) :: kvs, (b, v) :: us, k, h, hr => by
    simp only [List.map_cons, List.cons.injEq] at h hr
    obtain ⟨rfl, h⟩ := h
    cases hr with
    | cons h1 h2 =>
      by_cases e : b = k
      · exact .inl ⟨d, v, by simp [dget, List.find?_cons, e], by simp [valV, List.find?_cons, e], h1⟩
      · have e1 : dget ((b, d) :: kvs) k = dget kvs k := by simp [dget, List.find?_cons, e]
        have e2 : valV ((b, v) :: us) k = valV us k := by simp [valV, List.find?_cons, e]
        rw [e1, e2]
        exact dget_rel h h2
theorem dput_rel {kvs : List (κ × D)} {us : List (κ × V)} {k : κ} {d : D} {v : V} (h : us.map (·.1) = kvs.map (·.1)) (hr : Rvs K φ I (kvs.map (·.2)) (us.map (·.2))) (hv : Rv K φ I d v) :
    (putK us k v).map (·.1) = (dput kvs k d).map (·.1) ∧ Rvs K φ I ((dput kvs k d).map (·.2)) ((putK us k v).map (·.2)) := by
  have ha : ∀ {kvs : List (κ × D)} {us : List (κ × V)}, us.map (·.1) = kvs.map (·.1) → (us.any fun kv => decide (kv.1 = k)) = kvs.any fun kv => decide (kv.1 = k) := by
    intro kvs us h
    have e1 : (us.any fun kv => decide (kv.1 = k)) = (us.map (·.1)).any fun x => decide (x = k) := by rw [List.any_map]; rfl
    have e2 : (kvs.any fun kv => decide (kv.1 = k)) = (kvs.map (·.1)).any fun x => decide (x = k) := by rw [List.any_map]; rfl
    rw [e1, e2, h]
  unfold dput putK
  rw [ha h]
  split
  · clear ha
    rename_i hh
    clear hh
    induction kvs generalizing us with
    | nil =>
      cases us with
      | nil => exact ⟨rfl, .nil⟩
      | cons _ _ => cases h
    | cons kv kvs ih =>
      cases us with
      | nil => cases h
      | cons u us =>
        simp only [List.map_cons, List.cons.injEq] at h hr
        cases hr with
        | cons h1 h2 =>
          obtain ⟨i1, i2⟩ := ih h.2 h2
          simp only [List.map_cons]
          by_cases e : u.1 = k
          · have e' : kv.1 = k := h.1 ▸ e
            rw [if_pos e, if_pos e']
            exact ⟨by rw [i1, h.1], .cons hv i2⟩
          · have e' : ¬ kv.1 = k := h.1 ▸ e
            rw [if_neg e, if_neg e']
            exact ⟨by rw [i1, h.1], .cons h1 i2⟩
  · simp only [List.map_append, List.map_cons, List.map_nil]
    exact ⟨by rw [h], hr.append (.cons hv .nil)⟩
end
def asKey : D → Option Key
  | .int i => some (.inl i)
  | .str s => some (.inr s)
  | _ => none
def asKeys : List D → Option (List Key)
  | [] => some []
  | d :: ds => (asKey d).bind fun k => (asKeys ds).map fun ks => k :: ks
section
variable {K : PySem.W.Frag} {φ : List Addr} {I H : Hp}
theorem asKey_rv {d : D} {v : V} {k : Key} (h : Rv K φ I d v) (e : asKey d = some k) : v = kV k := by
  cases h <;> simp only [asKey, Option.some.injEq, reduceCtorEq] at e
  · subst e; rfl
  · subst e; rfl
theorem asKey_seen {d : D} {v : V} {k : Key} (h : Seen K φ I H d v) (e : asKey d = some k) : v = kV k := by
  rcases h with h | ⟨a, c, _, rfl, _⟩
  · exact asKey_rv h e
  · cases c <;> cases e
theorem asKeys_rv : ∀ {ds : List D} {vs : List V} {ks : List Key}, Rvs K φ I ds vs → asKeys ds = some ks → vs = ks.map kV
  | [], _, ks, .nil, e => by simp only [asKeys, Option.some.injEq] at e; subst e; rfl
  | d :: ds, _, ks, .cons h1 h2, e => by
    simp only [asKeys] at e
    obtain ⟨k, e1, e2⟩ := Option.bind_eq_some_iff.mp e
    obtain ⟨r, e3, rfl⟩ := Option.map_eq_some_iff.mp e2
    rw [List.map_cons, asKey_rv h1 e1, asKeys_rv h2 e3]
theorem Seen.dct {kvs : List (Key × D)} {v : V} (hx : Ex I H) (h : Seen K φ I H (.dct kvs) v) : ∃ a us, v = .ref a ∧ Rd H a (.dK us) ∧ us.map (·.1) = kvs.map (·.1) ∧ Rvs K φ I (kvs.map (·.2)) (us.map (·.2)) := by
  rcases h with h | ⟨a, c, rfl, e, o, h1, h2, h3⟩
  · cases h with
    | dct h1 h2 h3 => exact ⟨_, _, rfl, .inr ⟨_, hx _ _ h1⟩, h2, h3⟩
  · cases c <;> cases e
    cases h3 with
    | dc h3 h4 => exact ⟨a, _, rfl, .inl h1, h3, h4⟩
theorem Seen.dcT {kvs : List (List Key × D)} {v : V} (hx : Ex I H) (h : Seen K φ I H (.dcT kvs) v) : ∃ a us, v = .ref a ∧ Rd H a (.dT us) ∧ us.map (·.1) = kvs.map (·.1) ∧ Rvs K φ I (kvs.map (·.2)) (us.map (·.2)) := by
  rcases h with h | ⟨a, c, rfl, e, o, h1, h2, h3⟩
  · cases h with
    | dcT h1 h2 h3 => exact ⟨_, _, rfl, .inr ⟨_, hx _ _ h1⟩, h2, h3⟩
  · cases c <;> cases e
    cases h3 with
    | dt h3 h4 => exact ⟨a, _, rfl, .inl h1, h3, h4⟩
theorem Rvs.atI {ds : List D} {vs : List V} (h : Rvs K φ I ds vs) {i : Int} {d : D} (e : L2.atI ds i = some d) : ∃ v, L2.atI vs i = some v ∧ Rv K φ I d v := by
  unfold L2.atI at e ⊢
  rw [← h.len]
  obtain ⟨j, e1, e2⟩ := Option.bind_eq_some_iff.mp e
  rw [e1]
  exact h.get e2
end
/-- x[y] -/
def opIx : D → D → Option RV
  | .lst ds, .int i => (atI ds i).map .sh
  | .lsF ds, .int i => (atI ds i).map .sh
  | .tup ds, .int i => (atI ds i).map .sh
  | .tpF ds, .int i => (atI ds i).map .sh
  | .str z, .int i => if z.length ≤ lim then (atI z.cps.toList i).map fun c => .sh (.str ⟨#[c]⟩) else none
  | .dct kvs, k => (asKey k).bind fun k => (dget kvs k).map .sh
  | .dcT kvs, .tup ks => (asKeys ks).bind fun ks => (dget kvs ks).map .sh
  | _, _ => none
section
variable {X : Cx} {E : Ent} {W : WX} {pos : Pos} {a b c e : Expr} {ma mb mc : M RV}
theorem ix_cases {r : R2} (h : ∀ v w H Q, r v w H Q → ∃ r', IxR X r' ∧ r' v w H Q) : IxR X r := fun value slice pins s σ H x y v u Q I rx ry q hs => by
  obtain ⟨r', h1, h2⟩ := h _ _ _ _ q
  exact h1 value slice pins s σ H x y v u Q I rx ry h2 hs
theorem ix_dct (hu : X.A.units + 1 < cLine) : IxR X (fun x y H Q => ∃ a v, x = .ref a ∧ DGet H a y (some v) ∧ Q v H) := by
  intro value slice pins s σ H x y v u Q I rx ry ⟨a, z, ex, g, q⟩ hs
  subst ex
  obtain rfl : v = Value.ref a := rx
  exact PyProof.Rows.tail_any (dict_typeIs I g) PySem.F.slot_dict_getitem.lookup (d_getItem hu I g ry fun w' s3 I3 rw' => ⟨z, H, I3, rw', q⟩) hs
theorem Rp.look {σ : L2.St} {H : Hp} {st : State} {φ : List Addr} {I : Hp} {Q : VK} {r : RV} {d : D} {v : V} (q : Af X.K E σ H st φ I r Q) (R : Rp X.K E σ H st φ I) (e : r = .sh d) (hv : Rv X.K φ I d v) : Q v H := by
  subst e
  exact q.sh R hv
theorem ix_any (hu : X.A.units + 1 < cLine) : IxR X (rdO X.K E opIx) := ix_cases fun v w H Q ⟨σ, st, φ, I, x, y, r, R, hx, hy, e, q⟩ => by
  have seqT : ∀ {ds : List D} {i : Int}, asT x = some ds → y = .int i → (atI ds i).map RV.sh = some r → ∃ r', IxR X r' ∧ r' v w H Q := fun h1 h2 h3 => by
    subst h2
    obtain ⟨d, e1, rfl⟩ := Option.map_eq_some_iff.mp h3
    obtain ⟨p, vs, rfl, g1, g2⟩ := hx.asT R.ext h1
    obtain ⟨u, e2, e3⟩ := g2.atI e1
    exact ⟨_, ix_tup, p, vs, _, u, rfl, hy.int, g1, e2, q.sh R e3⟩
  have seqL : ∀ {ds : List D} {i : Int}, asL x = some ds → y = .int i → (atI ds i).map RV.sh = some r → ∃ r', IxR X r' ∧ r' v w H Q := fun h1 h2 h3 => by
    subst h2
    obtain ⟨d, e1, rfl⟩ := Option.map_eq_some_iff.mp h3
    obtain ⟨p, vs, rfl, g1, g2⟩ := hx.asL R.ext h1
    obtain ⟨u, e2, e3⟩ := g2.atI e1
    exact ⟨_, ix_list, p, vs, _, u, rfl, hy.int, g1, e2, q.sh R e3⟩
  cases x <;> try (simp [opIx] at e; done)
  · rename_i z
    cases y <;> try (simp [opIx] at e; done)
    simp only [opIx] at e
    by_cases h : z.length ≤ lim
    · rw [if_pos h] at e
      obtain ⟨c, e1, rfl⟩ := Option.map_eq_some_iff.mp e
      exact ⟨_, ix_str, z, _, c, hx.str, hy.int, Nat.le_trans h lim_le, e1, q.sh R (.str _)⟩
    · rw [if_neg h] at e
      cases e
  · cases y <;> try (simp [opIx] at e; done)
    exact seqT rfl rfl e
  · cases y <;> try (simp [opIx] at e; done)
    exact seqL rfl rfl e
  · cases y <;> try (simp [opIx] at e; done)
    exact seqL rfl rfl e
  · cases y <;> try (simp [opIx] at e; done)
    exact seqT rfl rfl e
  · rename_i kvs
    simp only [opIx] at e
    obtain ⟨k, e1, e2⟩ := Option.bind_eq_some_iff.mp e
    obtain ⟨d, e3, rfl⟩ := Option.map_eq_some_iff.mp e2
    obtain ⟨p, us, rfl, h1, h2, h3⟩ := hx.dct R.ext
    rcases dget_rel (k := k) h2 h3 with ⟨d', u, q1, q2, q3⟩ | ⟨q1, _⟩
    · rw [e3] at q1
      cases q1
      exact ⟨_, ix_dct hu, p, u, rfl, .inl ⟨us, k, h1, asKey_seen hy e1, q2.symm⟩, q.sh R q3⟩
    · rw [e3] at q1
      cases q1
  · rename_i kvs
    cases y <;> try (simp [opIx] at e; done)
    simp only [opIx] at e
    obtain ⟨k, e1, e2⟩ := Option.bind_eq_some_iff.mp e
    obtain ⟨d, e3, rfl⟩ := Option.map_eq_some_iff.mp e2
    obtain ⟨p, us, rfl, h1, h2, h3⟩ := hx.dcT R.ext
    obtain ⟨b, vs, rfl, g1, g2⟩ := hy.tup R.ext
    have ek := asKeys_rv g2 e1
    subst ek
    rcases dget_rel (k := k) h2 h3 with ⟨d', u, q1, q2, q3⟩ | ⟨q1, _⟩
    · rw [e3] at q1
      cases q1
      exact ⟨_, ix_dct hu, p, u, rfl, .inr ⟨us, k, b, h1, rfl, g1, q2.symm⟩, q.sh R q3⟩
    · rw [e3] at q1
      cases q1
theorem sr_ix (hu : X.A.units + 1 < cLine) (ha : SR X E W a ma) (hb : SR X E W b mb) (hs : PlainIx b := by exact fun _ _ => rfl) : SR X E W (.Subscript a b pos) (mOp opIx ma mb) := PEi (pe_ix (ix_any hu) (sr_bor ha) (sr_bor hb) hs) fun _ _ _ h => rd_op h
/-! ### slices -/
def cut {α : Type} (xs : List α) (lo hi : Option Int) : List α := (xs.drop (HT.sIx xs.length 0 lo)).take (HT.sIx xs.length xs.length hi - HT.sIx xs.length 0 lo)
def opSl (x : D) (lo hi : Option Int) : Option RV := match x with
  | .lst ds => some (.ow (.ls (cut ds lo hi)))
  | .lsF ds => some (.ow (.ls (cut ds lo hi)))
  | .tup ds => some (.sh (.tup (cut ds lo hi)))
  | .tpF ds => if HT.sIx ds.length 0 lo = 0 ∧ HT.sIx ds.length ds.length hi = ds.length then some (.sh (.tpF ds)) else some (.sh (.tup (cut ds lo hi)))
  | .str z => if z.length ≤ lim then some (.sh (.str (cutS z lo hi))) else none
  | _ => none
def mNo : M (Option Int) := M.pure none
def mPt (m : M RV) : M (Option Int) := m.bind fun r => match r with
  | .sh (.int i) => M.pure (some i)
  | _ => M.stuck
def mSl (a : M RV) (lo hi : M (Option Int)) : M RV := a.bor.bind fun r => lo.bind fun l => hi.bind fun h => at1 (fun x => opSl x l h) r
def rdP (K : PySem.W.Frag) (E : Ent) (W : WX) (m : M (Option Int)) : TO := fun σ H Q => ∃ st φ I, Rp K E σ H st φ I ∧ Po K E W σ (m st) H st φ I fun r H' st' φ' I' => Q r H'
abbrev SP' (X : Cx) (E : Ent) (W : WX) (e : Option Expr) (m : M (Option Int)) : Prop := PO X e (rdP X.K E W m)
theorem POi {e : Option Expr} {t t' : TO} (h : PO X e t) (k : ∀ σ H Q, t' σ H Q → t σ H Q) : PO X e t' := ⟨fun p s σ H Q I q => h.run p s σ H Q I (k _ _ _ q)⟩
theorem sp_no : SP' X E W none mNo := POi po_none fun σ H Q ⟨st, φ, I, R, p⟩ => p.pure R
theorem sp_pt (h : SR X E W a ma) : SP' X E W (some a) (mPt ma) := POi (po_some h) fun σ H Q ⟨st, φ, I, R, p⟩ => by
  refine ⟨st, φ, I, R, (Po.bind p).imp fun r H1 st1 φ1 I1 S1 R1 p1 v hv _ => ?_⟩
  cases r with
  | ow c => exact p1.elim
  | lo i => exact p1.elim
  | sh d =>
    cases d <;> try (exact p1.elim)
    cases hv
    exact ⟨_, rfl, p1.pure R1⟩
def rdL (K : PySem.W.Frag) (E : Ent) : V → Option Int → Option Int → Hp → VK → Prop := fun v lo hi H Q => ∃ σ st φ I x r, Rp K E σ H st φ I ∧ Seen K φ I H x v ∧ opSl x lo hi = some r ∧ Af K E σ H st φ I r Q
theorem Rvs.cut {K : PySem.W.Frag} {φ : List Addr} {I : Hp} {ds : List D} {vs : List V} (h : Rvs K φ I ds vs) (lo hi : Option Int) : Rvs K φ I (PM.cut ds lo hi) (cutV vs lo hi) := by
  unfold PM.cut cutV
  rw [h.len]
  exact (h.drop _).take _
theorem sl_any : SlR X (rdL X.K E) := fun pins s σ' H v0 v vl vu lo hi sl Q I0 rx hs pl pu ⟨σ, st, φ, I, x, r, R, hx, e, q⟩ => by
  have go : ∀ r', SlR X r' → r' v0 lo hi H Q → ∃ T id, typeLookup (.type T) "__getitem__" = Pure.pure (some (.builtin id)) ∧ s.TypeIs v T ∧ wpAny (model X.prog X.w) X.A (getItem v (.ref sl)) (EP X pins σ' Q) X.xe s := fun r' h q' => h pins s σ' H v0 v vl vu lo hi sl Q I0 rx hs pl pu q'
  have lists : ∀ {ds : List D}, asL x = some ds → r = .ow (.ls (PM.cut ds lo hi)) → rSlL X.K v0 lo hi H Q := fun h1 h2 => by
    subst h2
    obtain ⟨p, vs, rfl, g1, g2⟩ := hx.asL R.ext h1
    exact ⟨p, vs, rfl, g1, q.lst R (g2.cut lo hi)⟩
  cases x <;> try (simp [opSl] at e; done)
  · rename_i z
    simp only [opSl] at e
    by_cases h : z.length ≤ lim
    · rw [if_pos h] at e
      cases e
      exact go _ sl_str ⟨z, hx.str, Nat.le_trans h lim_le, q.sh R (.str _)⟩
    · rw [if_neg h] at e
      cases e
  · rename_i ds
    simp only [opSl, Option.some.injEq] at e
    subst e
    obtain ⟨p, vs, rfl, g1, g2⟩ := hx.tup R.ext
    refine go _ sl_tupA ⟨p, vs, rfl, .inl (.inl g1), fun z => ?_, fun z => q.tup R (g2.cut lo hi)⟩
    have e1 : PM.cut ds lo hi = ds := by
      unfold PM.cut
      rw [g2.len, z.1, z.2]
      simp [← g2.len]
    rw [e1] at q
    exact q.sh R (hx.elim id fun ⟨_, c, _, e, _⟩ => by cases c <;> cases e)
  · simp only [opSl, Option.some.injEq] at e
    exact go _ sl_list (lists rfl e.symm)
  · simp only [opSl, Option.some.injEq] at e
    exact go _ sl_list (lists rfl e.symm)
  · rename_i ds
    simp only [opSl] at e
    obtain ⟨p, vs, rfl, g1, g2⟩ := hx.tpF R.ext
    by_cases h : HT.sIx ds.length 0 lo = 0 ∧ HT.sIx ds.length ds.length hi = ds.length
    · rw [if_pos h] at e
      cases e
      refine go _ sl_tupA ⟨p, vs, rfl, g1, fun z => q.sh R (hx.elim id fun ⟨_, c, _, e, _⟩ => by cases c <;> cases e), fun z => absurd (by rw [← g2.len]; exact h) z⟩
    · rw [if_neg h] at e
      cases e
      refine go _ sl_tupA ⟨p, vs, rfl, g1, fun z => absurd (by rw [g2.len]; exact z) h, fun z => q.tup R (g2.cut lo hi)⟩
theorem sr_sl {lo hi : Option Expr} {ml mh : M (Option Int)} {p2 : Pos} (ha : SR X E W a ma) (hl : SP' X E W lo ml) (hh : SP' X E W hi mh) : SR X E W (.Subscript a (.Slice lo hi none p2) pos) (mSl ma ml mh) := PEi (pe_slice sl_any (sr_bor ha) hl hh) fun σ H Q ⟨st, φ, I, R, p⟩ => by
  refine ⟨st, φ, I, R, (Po.bind p).imp fun x H1 st1 φ1 I1 S1 R1 p1 v hv _ => ?_⟩
  refine ⟨st1, φ1, I1, R1, (Po.bind p1).imp fun l H2 st2 φ2 I2 S2 R2 p2 => ?_⟩
  refine ⟨st2, φ2, I2, R2, (Po.bind p2).imp fun h H3 st3 φ3 I3 S3 R3 p3 => ?_⟩
  obtain ⟨x', r, ex, e, p4⟩ := Po.at1 p3
  exact ⟨σ, st3, φ3, I3, x', r, R3, hv.seen (S2.trans S3) R3 ex, e, fun u H' I' S' R' hr hn => p4 H' φ3 I' S' R' u hr (Nw.far ((S1.trans S2).trans S3).there hn)⟩
/-! ### built-ins of one and two arguments -/
def rdC1 (K : PySem.W.Frag) (E : Ent) (g : D → Option RV) : List V → Hp → VK → Prop := fun vs H Q => ∃ v, vs = [v] ∧ rdU K E g v H Q
def rdC2 (K : PySem.W.Frag) (E : Ent) (g : D → D → Option RV) : List V → Hp → VK → Prop := fun vs H Q => ∃ v w, vs = [v, w] ∧ rdO K E g v w H Q
variable {x id T : String} {x' : Str} {p : Pos} {g : D → Option RV} {g2 : D → D → Option RV}
theorem rd_c1 {σ : L2.St} {H : Hp} {Q : VK} (h : rdR X.K E W (mUn g ma) σ H Q) : tCB (rdC1 X.K E g) (tCons (rdR X.K E W ma.bor) tNil) σ H Q := by
  obtain ⟨st, φ, I, R, p⟩ := h
  refine ⟨st, φ, I, R, (Po.bind p).imp fun x H1 st1 φ1 I1 S1 R1 p1 v hv _ => ?_⟩
  obtain ⟨x', r, ex, e, p3⟩ := Po.at1 p1
  exact ⟨v, rfl, σ, st1, φ1, I1, x', r, R1, hv.seen Stp.refl R1 ex, e, fun u H' I' S' R' hr hn => p3 H' φ1 I' S' R' u hr (Nw.far S1.there hn)⟩
theorem rd_c2 {σ : L2.St} {H : Hp} {Q : VK} (h : rdR X.K E W (mOp g2 ma mb) σ H Q) : tCB (rdC2 X.K E g2) (tCons (rdR X.K E W ma.bor) (tCons (rdR X.K E W mb.bor) tNil)) σ H Q := by
  obtain ⟨st, φ, I, R, p⟩ := h
  refine ⟨st, φ, I, R, (Po.bind p).imp fun x H1 st1 φ1 I1 S1 R1 p1 v hv _ => ?_⟩
  refine ⟨st1, φ1, I1, R1, (Po.bind p1).imp fun y H2 st2 φ2 I2 S2 R2 p2 w hw _ => ?_⟩
  obtain ⟨x', y', r, ex, ey, e, p3⟩ := Po.at2 p2
  exact ⟨v, w, rfl, σ, st2, φ2, I2, x', y', r, R2, hv.seen S2 R2 ex, hw.seen Stp.refl R2 ey, e, fun u H' I' S' R' hr hn => p3 H' φ2 I' S' R' u hr (Nw.far (S1.trans S2).there hn)⟩
theorem sr_b1 (hc : CallR X (.builtin id) (rdC1 X.K E g)) (hg : Gl X x') (hm : X.mg x' = none) (hv : bootBuiltins x' = some (.builtin id)) (ha : SR X E W a ma) (hn : x' ≠ "__name__" := by decide) (hdb : (x' == ("__debug__" : Str)) = false := by decide)
    (he : starEach [a] X.env = (false, eval a X.env) :: starEach [] X.env := by rfl) : SR X E W (.Call (.Name x' p) [a] [] pos) (mUn g ma) := PEi (pe_callB hc hg hm hv (pa_cons (sr_bor ha) pa_nil he) hn hdb he) fun _ _ _ h => rd_c1 h
theorem sr_t1 (hc : CallR X (.type T) (rdC1 X.K E g)) (hg : Gl X x') (hm : X.mg x' = none) (hv : bootBuiltins x' = some (.type T)) (ha : SR X E W a ma) (hn : x' ≠ "__name__" := by decide) (hdb : (x' == ("__debug__" : Str)) = false := by decide)
    (he : starEach [a] X.env = (false, eval a X.env) :: starEach [] X.env := by rfl) : SR X E W (.Call (.Name x' p) [a] [] pos) (mUn g ma) := PEi (pe_callTy hc hg hm hv (pa_cons (sr_bor ha) pa_nil he) hn hdb he) fun _ _ _ h => rd_c1 h
theorem sr_b2 (hc : CallR X (.builtin id) (rdC2 X.K E g2)) (hg : Gl X x') (hm : X.mg x' = none) (hv : bootBuiltins x' = some (.builtin id)) (ha : SR X E W a ma) (hb : SR X E W b mb) (hn : x' ≠ "__name__" := by decide) (hdb : (x' == ("__debug__" : Str)) = false := by decide)
    (he : starEach [a, b] X.env = (false, eval a X.env) :: starEach [b] X.env := by rfl) (he2 : starEach [b] X.env = (false, eval b X.env) :: starEach [] X.env := by rfl) (hpl : (backTo pos (starEach [b] X.env)).any (·.1) = false := by rfl) :
    SR X E W (.Call (.Name x' p) [a, b] [] pos) (mOp g2 ma mb) := PEi (pe_callB hc hg hm hv (pa_cons (sr_bor ha) (pa_cons (sr_bor hb) pa_nil he2) he) hn hdb he hpl) fun _ _ _ h => rd_c2 h
theorem call_cases {f : Value} {r : List V → Hp → VK → Prop} (h : ∀ vs H Q, r vs H Q → ∃ r', CallR X f r' ∧ r' vs H Q) : CallR X f r := fun pins s σ H xs us Q I rv q => by
  obtain ⟨r', h1, h2⟩ := h _ _ _ q
  exact h1 pins s σ H xs us Q I rv h2
/-- len -/
def opLen : D → Option RV
  | .lst ds => some (.sh (.int ds.length))
  | .lsF ds => some (.sh (.int ds.length))
  | .tup ds => some (.sh (.int ds.length))
  | .tpF ds => some (.sh (.int ds.length))
  | .str z => if z.length ≤ lim then some (.sh (.int z.length)) else none
  | .dct kvs => some (.sh (.int kvs.length))
  | _ => none
theorem call_lenS : CallR X (.builtin "len") (fun xs H Q => ∃ z, xs = [.str z] ∧ z.length ≤ sizeLine ∧ Q (.int z.length) H) := fun pins s σ H xs us Q I rv ⟨z, e, h, q⟩ => call_len pins s σ H xs us Q I rv ⟨.str z, z.length, e, ⟨h, rfl⟩, q⟩
theorem call_lenDR : CallR X (.builtin "len") (fun xs H Q => ∃ p kvs, xs = [.ref p] ∧ Rd H p (.dK kvs) ∧ Q (.int (kvs.length : Nat)) H) := fun pins s σ H xs us Q I rv ⟨p, kvs, e, h, q⟩ => by
  subst e
  obtain ⟨u, rfl, ru⟩ := vals1 rv
  cases ru
  exact d_len I h fun t s' I' => ⟨.int kvs.length, H, I', ⟨t, rfl⟩, q⟩
theorem cl_len : CallR X (.builtin "len") (rdC1 X.K E opLen) := call_cases fun vs H Q ⟨v, e0, σ, st, φ, I, x, r, R, hx, e, q⟩ => by
  subst e0
  have seqL : ∀ {ds : List D}, asL x = some ds → r = .sh (.int ds.length) → ∃ r', CallR X (.builtin "len") r' ∧ r' [v] H Q := fun h1 h2 => by
    subst h2
    obtain ⟨p, vs, rfl, g1, g2⟩ := hx.asL R.ext h1
    refine ⟨_, call_len_seq, p, vs, rfl, .inl g1, ?_⟩
    rw [← g2.len]
    exact q.sh R (.int _)
  have seqT : ∀ {ds : List D}, asT x = some ds → r = .sh (.int ds.length) → ∃ r', CallR X (.builtin "len") r' ∧ r' [v] H Q := fun h1 h2 => by
    subst h2
    obtain ⟨p, vs, rfl, g1, g2⟩ := hx.asT R.ext h1
    refine ⟨_, call_len_seq, p, vs, rfl, .inr g1, ?_⟩
    rw [← g2.len]
    exact q.sh R (.int _)
  cases x <;> try (simp [opLen] at e; done)
  · rename_i z
    simp only [opLen] at e
    by_cases h : z.length ≤ lim
    · rw [if_pos h] at e
      cases e
      exact ⟨_, call_lenS, z, by rw [hx.str], Nat.le_trans h lim_le, q.sh R (.int _)⟩
    · rw [if_neg h] at e
      cases e
  · simp only [opLen, Option.some.injEq] at e; exact seqT rfl e.symm
  · simp only [opLen, Option.some.injEq] at e; exact seqL rfl e.symm
  · simp only [opLen, Option.some.injEq] at e; exact seqL rfl e.symm
  · simp only [opLen, Option.some.injEq] at e; exact seqT rfl e.symm
  · simp only [opLen, Option.some.injEq] at e
    subst e
    obtain ⟨p, us, rfl, h1, h2, h3⟩ := hx.dct R.ext
    refine ⟨_, call_lenDR, p, us, rfl, h1, ?_⟩
    have := congrArg List.length h2
    rw [List.length_map, List.length_map] at this
    rw [this]
    exact q.sh R (.int _)
def opAbs : D → Option RV
  | .int i => some (.sh (.int (if i < 0 then -i else i)))
  | _ => none
theorem cl_abs : CallR X (.builtin "abs") (rdC1 X.K E opAbs) := call_cases fun vs H Q ⟨v, e0, σ, st, φ, I, x, r, R, hx, e, q⟩ => by
  subst e0
  cases x <;> try (simp [opAbs] at e; done)
  simp only [opAbs, Option.some.injEq] at e
  subst e
  exact ⟨_, call_abs, _, by rw [hx.int], q.sh R (.int _)⟩
def opList (d : D) : Option RV := ((asL d).or (asT d)).map fun ds => .ow (.ls ds)
theorem cl_list : CallR X (.type "list") (rdC1 X.K E opList) := call_cases fun vs H Q ⟨v, e0, σ, st, φ, I, x, r, R, hx, e, q⟩ => by
  subst e0
  obtain ⟨ds, e1, rfl⟩ := Option.map_eq_some_iff.mp e
  cases h : asL x with
  | some es =>
    rw [h] at e1
    cases e1
    obtain ⟨p, us, rfl, g1, g2⟩ := hx.asL R.ext h
    exact ⟨_, call_list_of, p, us, rfl, .inl g1, q.lst R g2⟩
  | none =>
    rw [h] at e1
    obtain ⟨p, us, rfl, g1, g2⟩ := hx.asT R.ext (show asT x = some ds from e1)
    exact ⟨_, call_list_of, p, us, rfl, .inr g1, q.lst R g2⟩
def opTuple (d : D) : Option RV := match d with
  | .tup ds => some (.sh (.tup ds))
  | .tpF ds => some (.sh (.tpF ds))
  | .lst ds => some (.sh (.tup ds))
  | .lsF ds => some (.sh (.tup ds))
  | _ => none
theorem cl_tuple : CallR X (.type "tuple") (rdC1 X.K E opTuple) := call_cases fun vs H Q ⟨v, e0, σ, st, φ, I, x, r, R, hx, e, q⟩ => by
  subst e0
  have lists : ∀ {ds : List D}, asL x = some ds → r = .sh (.tup ds) → ∃ r', CallR X (.type "tuple") r' ∧ r' [v] H Q := fun h1 h2 => by
    subst h2
    obtain ⟨p, us, rfl, g1, g2⟩ := hx.asL R.ext h1
    exact ⟨_, call_tuple_of, p, us, rfl, .inl ⟨g1, q.tup R g2⟩⟩
  have back : ∀ {d : D} {l : List D}, Seen X.K φ I H d v → (d = .tup l ∨ d = .tpF l) → Rv X.K φ I d v := fun hz hl => hz.elim id fun ⟨_, c, _, e, _⟩ => by rcases hl with rfl | rfl <;> cases c <;> cases e
  cases x <;> try (simp [opTuple] at e; done)
  · simp only [opTuple, Option.some.injEq] at e
    subst e
    obtain ⟨p, us, rfl, g1, g2⟩ := hx.tup R.ext
    exact ⟨_, call_tuple_of, p, us, rfl, .inr ⟨.inl (.inl g1), q.sh R (back hx (.inl rfl))⟩⟩
  · simp only [opTuple, Option.some.injEq] at e; exact lists rfl e.symm
  · simp only [opTuple, Option.some.injEq] at e; exact lists rfl e.symm
  · simp only [opTuple, Option.some.injEq] at e
    subst e
    obtain ⟨p, us, rfl, g1, g2⟩ := hx.tpF R.ext
    exact ⟨_, call_tuple_of, p, us, rfl, .inr ⟨g1, q.sh R (back hx (.inr rfl))⟩⟩
end
end PM
set_option Elab.async false
set_option linter.all false
set_option maxRecDepth 100000
set_option maxHeartbeats 1200000
namespace PM
open PySem PySem.Spec L2
/-! ### things that change -/
/-- the thing that r is, changed by f; what f gives besides -/
def upC (f : Cell → Option (D × Cell)) (r : RV) (st : State) : Option (D × State) := match r with
  | .lo i => match st.env[i]? with
    | some (.ow c) => (f c).map fun p => (p.1, { st with env := st.env.set i (.ow p.2) })
    | _ => none
  | .sh (.obj n) => match st.store[n]? with
    | some c => (f c).map fun p => (p.1, { st with store := st.store.set n p.2 })
    | none => none
  | _ => none
section
variable {K : PySem.W.Frag} {E : Ent} {σ : L2.St} {H : Hp} {st st' : State} {φ : List Addr} {I : Hp}
theorem Rp.up (R : Rp K E σ H st φ I) {f : Cell → Option (D × Cell)} (hf : f .dead = none) {r : RV} {v : V} {d : D} (hr : Rr K E σ H st φ I r v) (e : upC f r st = some (d, st')) :
    ∃ a c c' o, v = .ref a ∧ H a = some o ∧ Ho K φ I a c o ∧ f c = some (d, c') ∧ ∀ o', Ho K φ I a c' o' → Rp K E σ (upd H a o') st' φ I ∧ Stp σ H st φ I (upd H a o') st' φ I := by
  cases r with
  | ow c => cases e
  | lo i =>
    simp only [upC] at e
    cases h : st.env[i]? with
    | none => rw [h] at e; cases e
    | some s =>
      rw [h] at e
      cases s with
      | un => cases e
      | sh d => cases e
      | ow c =>
        obtain ⟨⟨d', c'⟩, e1, e2⟩ := Option.map_eq_some_iff.mp e
        cases e2
        obtain ⟨a, h1, ⟨o, g1, g2, g3⟩, h3, h4⟩ := R.ow i c h
        have hv : σ[i]? = some (some v) := hr
        rw [h1] at hv
        cases hv
        have hi : i < st.env.length := (List.getElem?_eq_some_iff.mp h).1
        have oth : ∀ {j : Nat}, j ≠ i → (st.env.set i (Slot.ow c'))[j]? = st.env[j]? := fun hj => List.getElem?_set_ne (Ne.symm hj)
        have self : (st.env.set i (Slot.ow c'))[i]? = some (Slot.ow c') := List.getElem?_set_self hi
        have own : ∀ j b, Owns (st.env.set i (Slot.ow c')) σ j b → Owns st.env σ j b := by
          rintro j b ⟨c2, q1, q2⟩
          by_cases hj : j = i
          · subst hj; exact ⟨c, h, q2⟩
          · rw [oth hj] at q1; exact ⟨c2, q1, q2⟩
        refine ⟨a, c, c', o, rfl, g1, g3, e1, fun o' ho' => ?_⟩
        have nI : ∀ b u, I b = some u → b ≠ a := fun b u q z => by rw [z, g2] at q; cases q
        refine ⟨⟨fun b u q => ?_, fun b u q n => ?_, fun b q => ?_, R.inew, R.iold, R.pre, R.fl, R.pnew, R.nd, R.len, fun j c2 b q1 q2 => ?_, fun b q => ?_, ?_, fun j d2 q => ?_, fun j c2 q => ?_, fun j k b q1 q2 => R.one j k b (own j b q1) (own k b q2)⟩,
          ⟨List.prefix_rfl, fun _ q n => absurd q n, Ex.refl _, fun b u q _ no => ?_, fun b q => ?_, fun b q n => absurd n q, own⟩⟩
        · rw [upd_ne (nI b u q)]; exact R.ext b u q
        · rw [upd_ne (show b ≠ a from fun z => by rw [z, h4] at q; cases q)]; exact R.keep b u q n
        · by_cases hb : b = a
          · rw [hb, upd_same]; simp
          · rw [upd_ne hb]; exact R.there b q
        · rcases R.cells j c2 b q1 q2 with z | ⟨u, z1, z2, z3⟩
          · exact .inl z
          · exact .inr ⟨u, by rw [upd_ne (show b ≠ a from fun z => h3 (z ▸ List.mem_of_getElem? q2))]; exact z1, z2, z3⟩
        · rw [upd_ne (show b ≠ a from fun z => h3 (z ▸ q))]; exact R.pin b q
        · show (st.env.set i _).length = _
          rw [List.length_set]; exact R.elen
        · by_cases hj : j = i
          · subst hj
            rw [show (st.env.set j (Slot.ow c'))[j]? = some (Slot.ow c') from self] at q
            cases q
          · exact R.sh j d2 (by rw [← oth hj]; exact q)
        · by_cases hj : j = i
          · subst hj
            rw [show (st.env.set j (Slot.ow c'))[j]? = some (Slot.ow c') from self] at q
            cases q
            exact ⟨a, h1, ⟨o', upd_same, g2, ho'⟩, h3, h4⟩
          · obtain ⟨b, z1, ⟨u, z2, z3, z4⟩, z5, z6⟩ := R.ow j c2 (by rw [← oth hj]; exact q)
            have hb : b ≠ a := fun z => hj (R.one j i a ⟨c2, by rw [← oth hj]; exact q, z ▸ z1⟩ ⟨c, h, h1⟩)
            exact ⟨b, z1, ⟨u, by rw [upd_ne hb]; exact z2, z3, z4⟩, z5, z6⟩
        · rw [upd_ne (show b ≠ a from fun z => no i ⟨c, h, z ▸ h1⟩)]; exact q
        · by_cases hb : b = a
          · rw [hb, upd_same]; simp
          · rw [upd_ne hb]; exact q
  | sh d0 =>
    cases d0 <;> try (cases e; done)
    rename_i n
    simp only [upC] at e
    cases h : st.store[n]? with
    | none => rw [h] at e; cases e
    | some c =>
      rw [h] at e
      obtain ⟨⟨d', c'⟩, e1, e2⟩ := Option.map_eq_some_iff.mp e
      cases e2
      have hv : Rv K φ I (.obj n) v := hr
      cases hv with
      | obj hn =>
        rename_i a
        have hc := R.cells n c a h hn
        rcases hc with rfl | ⟨o, g1, g2, g3⟩
        · rw [hf] at e1; cases e1
        · have hi : n < st.store.length := (List.getElem?_eq_some_iff.mp h).1
          have ha : a ∈ φ := List.mem_of_getElem? hn
          have nI : ∀ b u, I b = some u → b ≠ a := fun b u q z => by rw [z, g2] at q; cases q
          have no : ∀ j c2, st.env[j]? = some (Slot.ow c2) → ∀ b, σ[j]? = some (some (V.ref b)) → b ≠ a := fun j c2 q b q2 z => by
            obtain ⟨b', z1, _, z3, _⟩ := R.ow j c2 q
            rw [q2] at z1
            cases z1
            exact z3 (z ▸ ha)
          refine ⟨a, c, c', o, rfl, g1, g3, e1, fun o' ho' => ?_⟩
          refine ⟨⟨fun b u q => ?_, fun b u q nn => ?_, fun b q => ?_, R.inew, R.iold, R.pre, R.fl, R.pnew, R.nd, ?_, fun j c2 b q1 q2 => ?_, fun b q => ?_, R.elen, R.sh, fun j c2 q => ?_, R.one⟩,
            ⟨List.prefix_rfl, fun _ q n => absurd q n, Ex.refl _, fun b u q nb _ => ?_, fun b q => ?_, fun b q n => absurd n q, fun _ _ h => h⟩⟩
          · rw [upd_ne (nI b u q)]; exact R.ext b u q
          · have hb : b ≠ a := fun z => by
              subst z
              rcases R.pnew b ha with z | z
              · exact nn z
              · rw [z] at q; cases q
            rw [upd_ne hb]; exact R.keep b u q nn
          · by_cases hb : b = a
            · rw [hb, upd_same]; simp
            · rw [upd_ne hb]; exact R.there b q
          · show φ.length = (st.store.set n c').length
            rw [List.length_set]; exact R.len
          · replace q1 : (st.store.set n c')[j]? = some c2 := q1
            by_cases hj : j = n
            · subst hj
              rw [List.getElem?_set_self hi] at q1
              cases q1
              rw [hn] at q2
              cases q2
              exact .inr ⟨o', upd_same, g2, ho'⟩
            · rw [List.getElem?_set_ne (Ne.symm hj)] at q1
              rcases R.cells j c2 b q1 q2 with z | ⟨u, z1, z2, z3⟩
              · exact .inl z
              · have hb : b ≠ a := fun z => by
                  subst z
                  have e1 := (List.getElem?_eq_some_iff.mp q2)
                  have e2 := (List.getElem?_eq_some_iff.mp hn)
                  obtain ⟨l1, e1⟩ := e1
                  obtain ⟨l2, e2⟩ := e2
                  exact hj ((List.getElem_inj R.nd).mp (e1.trans e2.symm))
                exact .inr ⟨u, by rw [upd_ne hb]; exact z1, z2, z3⟩
          · by_cases hb : b = a
            · rw [hb, upd_same]; simp
            · rw [upd_ne hb]; exact R.pin b q
          · obtain ⟨b, z1, ⟨u, z2, z3, z4⟩, z5, z6⟩ := R.ow j c2 q
            exact ⟨b, z1, ⟨u, by rw [upd_ne (no j c2 q b z1)]; exact z2, z3, z4⟩, z5, z6⟩
          · rw [upd_ne (show b ≠ a from fun z => nb (z ▸ ha))]; exact q
          · by_cases hb : b = a
            · rw [hb, upd_same]; simp
            · rw [upd_ne hb]; exact q
theorem Rr.step {H' : Hp} {φ' : List Addr} {I' : Hp} {r : RV} {v : V} (h : Rr K E σ H st φ I r v) (S : Stp σ H st φ I H' st' φ' I') (hr : ∀ c, r ≠ .ow c) : Rr K E σ H' st' φ' I' r v := by
  cases r with
  | ow c => exact absurd rfl (hr c)
  | lo i => exact h
  | sh d => exact Rv.mono S.pf S.ii h
theorem bor_no {r : RV} : ∀ c, r.bor ≠ .ow c := fun c h => by cases r <;> cases h
end
/-! ### d[k] = v -/
def putC (k d : D) : Cell → Option (D × Cell)
  | .dc kvs => if kvs.length < lim then (asKey k).map fun k => (.non, .dc (dput kvs k d)) else none
  | .dt kvs => if kvs.length < lim then (match k with
    | .tup ks => (asKeys ks).map fun k => (.non, .dt (dput kvs k d))
    | _ => none) else none
  | _ => none
def mPut (a k v : M RV) : MS := v.frz.then fun d => (a.bind fun r => M.pure r.bor).then fun r => k.frz.then fun kd st => match upC (putC kd d) r.bor st with
  | some (_, st') => .nx st'
  | none => .stuck
section
variable {X : Cx} {E : Ent} {W : WX} {pos pos' : Pos} {a b c e : Expr} {ma mb mc : M RV}
theorem ss_put (hu : X.A.units + 1 < cLine) (ho : SR X E W a ma) (hi : SR X E W b mb) (hv : SR X E W c mc) (hs : swapsWith c (some (.Subscript a b pos')) pos.line X.env = pure false := by rfl) :
    SS X E W (.Assign [.Subscript a b pos'] c pos) (mPut ma mb mc) := PSi (ps_dput hu (sr_bor ho) (se_frz hi) (se_frz hv) hs) fun D σ H ⟨st, φ, I, R, p⟩ => by
  refine ⟨st, φ, I, R, (Ps.then p).imp fun d H1 st1 φ1 I1 S1 R1 p1 v hv => ?_⟩
  refine ⟨st1, φ1, I1, R1, (Ps.then p1).imp fun r H2 st2 φ2 I2 S2 R2 p2 u hu hn => ?_⟩
  refine ⟨st2, φ2, I2, R2, (Ps.then p2).imp fun k H3 st3 φ3 I3 S3 R3 p3 w hw => ?_⟩
  cases e : upC (putC k d) r.bor st3 with
  | none => rw [e] at p3; exact p3.elim
  | some q =>
    obtain ⟨d', st4⟩ := q
    rw [e] at p3
    have hu2 : Rr X.K E σ H2 st2 φ2 I2 r.bor u := by
      cases r with
      | ow c =>
        -- a new thing is not stored into
        exact absurd e (by simp [upC, RV.bor]; cases c <;> simp [Cell.frz])
      | sh d => exact hu
      | lo i => exact hu
    have hr3 : Rr X.K E σ H3 st3 φ3 I3 r.bor u := hu2.step S3 bor_no
    have hd3 := hv.mono (S2.trans S3).pf (S2.trans S3).ii
    obtain ⟨x, cc, c', o, rfl, g1, g2, g3, g4⟩ := R3.up (f := putC k d) rfl hr3 e
    cases g2 with
    | ls _ => cases g3
    | ins _ _ => cases g3
    | tab _ _ => cases g3
    | dc z1 z2 =>
      rename_i kvs us
      simp only [putC] at g3
      by_cases hz : kvs.length < lim
      · rw [if_pos hz] at g3
        obtain ⟨k', e1, e2⟩ := Option.map_eq_some_iff.mp g3
        cases e2
        obtain ⟨y1, y2⟩ := dput_rel (k := k') z1 z2 hd3
        obtain ⟨R4, S4⟩ := g4 _ (.dc y1 y2)
        have hl : us.length = kvs.length := by have := congrArg List.length z1; rwa [List.length_map, List.length_map] at this
        refine ⟨x, _, rfl, .inl ⟨us, k', g1, asKey_rv hw e1, by rw [hl]; exact Nat.lt_trans hz lim_lt, rfl⟩, p3 _ _ _ _ Grow.refl R4⟩
      · rw [if_neg hz] at g3
        cases g3
    | dt z1 z2 =>
      rename_i kvs us
      simp only [putC] at g3
      by_cases hz : kvs.length < lim
      · rw [if_pos hz] at g3
        cases k <;> try (cases g3; done)
        rename_i ks
        obtain ⟨k', e1, e2⟩ := Option.map_eq_some_iff.mp g3
        cases e2
        obtain ⟨y1, y2⟩ := dput_rel (k := k') z1 z2 hd3
        obtain ⟨R4, S4⟩ := g4 _ (.dt y1 y2)
        have hl : us.length = kvs.length := by have := congrArg List.length z1; rwa [List.length_map, List.length_map] at this
        cases hw with
        | tup q1 q2 =>
          have ek := asKeys_rv q2 e1
          subst ek
          exact ⟨x, _, rfl, .inr ⟨us, k', _, g1, rfl, R3.ext _ _ q1, by rw [hl]; exact Nat.lt_trans hz lim_lt, rfl⟩, p3 _ _ _ _ Grow.refl R4⟩
      · rw [if_neg hz] at g3
        cases g3
end
end PM
set_option Elab.async false
set_option linter.all false
set_option maxRecDepth 100000
set_option maxHeartbeats 1200000
namespace PM
open PySem PySem.Spec L2
/-! ### what a loop walks -/
def asSeq (d : D) : Option (List D) := (asL d).or (asT d)
def keyD : Key → D
  | .inl i => .int i
  | .inr s => .str s
def asIt : D → Option (List D)
  | .dct kvs => some (kvs.map fun kv => keyD kv.1)
  | d => asSeq d
def mIt (a : M RV) : M (List D) := a.frz.bind fun d => M.ofO (asIt d)
def asI : RV → Option Int
  | .sh (.int i) => some i
  | _ => none
def rng (lo : Int) (n : Nat) : List D := (List.range n).map fun (k : Nat) => D.int (lo + (k : Int))
def small (i : Int) : Bool := decide (i.natAbs < 4611686018427387904)
def mRg1 (a : M RV) : M (List D) := a.bind fun r => match asI r with
  | some i => if small i then M.pure (rng 0 i.toNat) else M.stuck
  | none => M.stuck
section
variable {K : PySem.W.Frag} {E : Ent} {φ : List Addr} {I : Hp}
theorem walk_l {a : Addr} {vs : List V} {ds : List D} (h : SqL K I a vs) (r : Rvs K φ I ds vs) : Walk K E (Itl K a) ds φ I := fun σ H st φ' I' R g i => by
  have hs : SqL K H a vs := sqL_mono R.ext (sqL_mono g.ii h)
  refine ⟨fun d e => ?_, fun hi => ⟨vs, hs, by rw [← r.len]; exact hi⟩⟩
  obtain ⟨v, e1, e2⟩ := r.get e
  refine ⟨⟨vs, v, hs, e1⟩, fun x H' ⟨e3, e4⟩ => ?_⟩
  subst e3
  have e5 := e4 vs hs
  rw [e1] at e5
  cases e5
  exact ⟨I', R, Stp.refl, e2.mono g.pf g.ii⟩
theorem walk_t {a : Addr} {vs : List V} {ds : List D} (h : SqT K I a vs) (r : Rvs K φ I ds vs) : Walk K E (Itt K a) ds φ I := fun σ H st φ' I' R g i => by
  have hs : SqT K H a vs := sqT_mono R.ext (sqT_mono g.ii h)
  refine ⟨fun d e => ?_, fun hi => ⟨vs, hs, by rw [← r.len]; exact hi⟩⟩
  obtain ⟨v, e1, e2⟩ := r.get e
  refine ⟨⟨vs, v, hs, e1⟩, fun x H' ⟨e3, e4⟩ => ?_⟩
  subst e3
  have e5 := e4 vs hs
  rw [e1] at e5
  cases e5
  exact ⟨I', R, Stp.refl, e2.mono g.pf g.ii⟩
theorem walk_k {a : Addr} {us : List (Key × V)} {kvs : List (Key × D)} {od : Obj} (h : I a = some (.frz od (.dK us))) (e : us.map (·.1) = kvs.map (·.1)) : Walk K E (Itk a od us) (kvs.map fun kv => keyD kv.1) φ I := fun σ H st φ' I' R g i => by
  have hs : H a = some (.frz od (.dK us)) := R.ext _ _ (g.ii _ _ h)
  have hl : us.length = kvs.length := by
    have := congrArg List.length e
    simpa using this
  refine ⟨fun d e2 => ?_, fun hi => ⟨hs, by rw [List.length_map] at hi; omega⟩⟩
  rw [List.getElem?_map] at e2
  obtain ⟨kv, e3, rfl⟩ := Option.map_eq_some_iff.mp e2
  have e4 : (us.map (·.1))[i]? = some kv.1 := by rw [e, List.getElem?_map, e3]; rfl
  rw [List.getElem?_map] at e4
  obtain ⟨u, e5, e6⟩ := Option.map_eq_some_iff.mp e4
  refine ⟨⟨hs, (List.getElem?_eq_some_iff.mp e5).1⟩, fun x H' ⟨e7, k, v, e8, e9⟩ => ?_⟩
  subst e7
  rw [e5] at e8
  cases e8
  subst e9
  refine ⟨I', R, Stp.refl, ?_⟩
  simp only at e6
  rw [e6]
  cases kv.1 with
  | inl i => exact .int _
  | inr z => exact .str _
theorem walk_r (lo : Int) (n : Nat) : Walk K E (Itr lo n) (rng lo n) φ I := fun σ H st φ' I' R g i => by
  have hl : (rng lo n).length = n := by unfold rng; simp
  refine ⟨fun d e => ?_, fun hi => by rw [hl] at hi; exact hi⟩
  have hi : i < n := by rw [← hl]; exact (List.getElem?_eq_some_iff.mp e).1
  have e2 : d = .int (lo + (i : Int)) := by
    unfold rng at e
    rw [List.getElem?_map, List.getElem?_range hi] at e
    exact (Option.some.inj e).symm
  subst e2
  refine ⟨hi, fun x H' ⟨e3, e4⟩ => ?_⟩
  subst e3
  subst e4
  exact ⟨I', R, Stp.refl, .int _⟩
end
section
variable {X : Cx} {E : Ent} {W : WX} {pos p : Pos} {tg a b c e : Expr} {ma mb mc : M RV}
theorem si_seq (h : SR X E W a ma) : SI X E W tg a (mIt ma) := ⟨fun pins s σ H R I0 h0 => by
  obtain ⟨st, φ, I, Rr, p⟩ := h0
  unfold mIt at p
  have p1 := Po.bind p
  cases e0 : ma.frz st with
  | stuck => rw [e0] at p1; exact p1.elim
  | exc c st1 =>
    rw [e0] at p1
    refine (pi_list (se_frz h)).run pins s σ H R I0 ⟨st, φ, I, Rr, ?_⟩
    rw [e0]
    exact p1
  | ok d st1 =>
    rw [e0] at p1
    by_cases hd : ∃ kvs, d = .dct kvs
    · obtain ⟨kvs, rfl⟩ := hd
      refine (pi_keys (se_frz h)).run pins s σ H R I0 ⟨st, φ, I, Rr, ?_⟩
      rw [e0]
      intro H1 φ1 I1 S1 R1 v hv
      obtain ⟨es, e2, q2⟩ := Po.ofO (p1 H1 φ1 I1 S1 R1)
      cases e2
      cases hv with
      | dct g1 g2 g3 => exact ⟨_, _, rfl, .inl ⟨_, R1.ext _ _ g1, q2 H1 φ1 I1 Stp.refl R1 _ (walk_k g1 g2)⟩⟩
    have hd2 : asIt d = asSeq d := by
      cases d <;> first | rfl | exact absurd ⟨_, rfl⟩ hd
    cases e1 : asL d with
    | some ds =>
      refine (pi_list (se_frz h)).run pins s σ H R I0 ⟨st, φ, I, Rr, ?_⟩
      rw [e0]
      intro H1 φ1 I1 S1 R1 v hv
      obtain ⟨es, e2, q2⟩ := Po.ofO (p1 H1 φ1 I1 S1 R1)
      rw [hd2] at e2
      unfold asSeq at e2
      rw [e1] at e2
      cases e2
      obtain ⟨x, vs, rfl, g1, g2⟩ := Seen.asL (Ex.refl I1) (Seen.rv hv) e1
      exact ⟨x, rfl, ⟨vs, sqL_mono R1.ext g1⟩, q2 H1 φ1 I1 Stp.refl R1 _ (walk_l g1 g2)⟩
    | none =>
      refine (pi_tup (se_frz h)).run pins s σ H R I0 ⟨st, φ, I, Rr, ?_⟩
      rw [e0]
      intro H1 φ1 I1 S1 R1 v hv
      obtain ⟨es, e2, q2⟩ := Po.ofO (p1 H1 φ1 I1 S1 R1)
      rw [hd2] at e2
      unfold asSeq at e2
      rw [e1] at e2
      obtain ⟨x, vs, rfl, g1, g2⟩ := Seen.asT (Ex.refl I1) (Seen.rv hv) (show asT d = some es from e2)
      exact ⟨x, rfl, ⟨vs, sqT_mono R1.ext g1⟩, q2 H1 φ1 I1 Stp.refl R1 _ (walk_t g1 g2)⟩⟩
/-! ### d.items() -/
def pairI (kvs : List (Key × D)) : List D := kvs.map fun kv => .tup [keyD kv.1, kv.2]
def mItI (a : M RV) : M (List D) := a.frz.bind fun d => match d with
  | .dct kvs => M.pure (pairI kvs)
  | _ => M.stuck
theorem asI_r {K : PySem.W.Frag} {σ : L2.St} {H : Hp} {st : State} {φ : List Addr} {I : Hp} {r : RV} {v : V} {i : Int} (h : Rr K E σ H st φ I r v) (e : asI r = some i) : v = .int i := by
  cases r with
  | ow c => cases e
  | lo i => cases e
  | sh d =>
    cases d <;> try (cases e; done)
    cases e
    cases h
    rfl
theorem small_of {i : Int} (h : small i = true) : -(2 ^ 62) ≤ i ∧ i < 2 ^ 62 := by
  have := of_decide_eq_true h
  omega
theorem si_rg1 (hg : Gl X "range") (hm : X.mg "range" = none) (ha : SR X E W a ma) (hs : starEach [a] X.env = [(false, eval a X.env)] := by rfl) : SI X E W tg (.Call (.Name "range" p) [a] [] pos) (mRg1 ma) := PIi (pi_range1 hg hm (pa_cons ha pa_nil hs) hs) fun σ H R ⟨st, φ, I, Rr, p⟩ => by
  refine ⟨st, φ, I, Rr, (Po.bind p).imp fun r H1 st1 φ1 I1 S1 R1 p1 v hv _ => ?_⟩
  cases e : asI r with
  | none => rw [e] at p1; exact p1.elim
  | some i =>
    rw [e] at p1
    simp only at p1
    by_cases h : small i = true
    · rw [if_pos h] at p1
      obtain ⟨h1, h2⟩ := small_of h
      refine ⟨i, by rw [asI_r hv e], h1, h2, p1.pure R1 _ (walk_r 0 _)⟩
    · rw [if_neg h] at p1
      exact p1.elim
/-! ### a, b = x, y -/
def isLo : RV → Bool
  | .lo _ => true
  | _ => false
def mPar (i j : Nat) (a b : M RV) : MS := a.fix.then fun r => b.fix.then fun s st => if isLo s then .stuck else .nx { st with env := (st.env.set i r.slot).set j s.slot }
theorem Rr.keep {K : PySem.W.Frag} {σ : L2.St} {H H' : Hp} {st st' : State} {φ φ' : List Addr} {I I' : Hp} {r : RV} {v : V} (h : Rr K E σ H st φ I r v) (S : Stp σ H st φ I H' st' φ' I') : Rr K E σ H' st' φ' I' r v := by
  cases r with
  | sh d => exact Rv.mono S.pf S.ii h
  | lo i => exact h
  | ow c =>
    obtain ⟨a, rfl, ⟨o, g1, g2, g3⟩, h2, h3, h4⟩ := h
    refine ⟨a, rfl, ⟨o, S.fr a o g1 h2 h4, ?_, g3.mono S.pf S.ii⟩, fun z => ?_, h3, fun i z => h4 i (S.ow i a z)⟩
    · cases q : I' a with
      | none => rfl
      | some u =>
        rcases S.inf a (by rw [q]; simp) g2 with z | z | ⟨i, z⟩
        · rw [g1] at z; cases z
        · exact absurd z h2
        · exact absurd z (h4 i)
    · have := S.nf a z h2
      rw [g1] at this
      cases this
theorem ss_par (i j : Nat) {x y : Str} {px py pt : Pos} {kt k2 pt2} (hc : X.calm = true) (hN : X.N.Nodup) (ha : SR X E W a ma) (hb : SR X E W b mb) (hi : X.N[i]? = some x := by rfl) (hj : X.N[j]? = some y := by rfl) (hij : i ≠ j := by decide)
    (hx : X.env.scope.names.lookup x = some .local := by rfl) (hy : X.env.scope.names.lookup y = some .local := by rfl) (he : starEach [a, b] X.env = (false, eval a X.env) :: starEach [b] X.env := by rfl) (he2 : starEach [b] X.env = (false, eval b X.env) :: starEach [] X.env := by rfl)
    (hw : swappedStores [.Tuple [.Name x px, .Name y py] kt pt] (.Tuple [a, b] k2 pt2) X.env = Pure.pure (some [x, y]) := by rfl)
    (hs : swapsWithSole [.Tuple [.Name x px, .Name y py] kt pt] (.Tuple [a, b] k2 pt2) pos.line X.env = Pure.pure false := by rfl) :
    SS X E W (.Assign [.Tuple [.Name x px, .Name y py] kt pt] (.Tuple [a, b] k2 pt2) pos) (mPar i j ma mb) := PSi (ps_par hc hN hi hj hij hx hy (pa_cons (sr_fix ha) (pa_cons (sr_fix hb) pa_nil he2) he) hw hs) fun D σ H ⟨st, φ, I, R, p⟩ => by
  refine ⟨st, φ, I, R, (Ps.then p).imp fun r H1 st1 φ1 I1 S1 R1 p1 v hv hn1 => ?_⟩
  refine ⟨st1, φ1, I1, R1, (Ps.then p1).imp fun s H2 st2 φ2 I2 S2 R2 p2 w hw hn2 => ?_⟩
  refine ⟨v, w, rfl, ?_⟩
  have hv2 := hv.keep S2
  have R3 := R2.setR (i := i) hv2
  by_cases hlo : isLo s = true
  · rw [if_pos hlo] at p2
    exact p2.elim
  rw [if_neg hlo] at p2
  refine p2 _ H2 φ2 I2 Grow.refl (R3.setR (r := s) (i := j) ?_)
  cases s with
  | sh d => exact hw
  | ow c =>
    obtain ⟨a2, rfl, h1, h2, h3, h4⟩ := hw
    refine ⟨a2, rfl, h1, h2, h3, ?_⟩
    rintro k ⟨c', q1, q2⟩
    by_cases hk : k = i
    · subst hk
      replace q1 : (st2.env.set k r.slot)[k]? = some (Slot.ow c') := q1
      have hl : k < st2.env.length := by
        have := (List.getElem?_eq_some_iff.mp q1).1
        rwa [List.length_set] at this
      rw [List.getElem?_set_self hl] at q1
      rw [List.getElem?_set_self (by rw [← R2.elen]; exact hl)] at q2
      cases r with
      | sh d => cases q1
      | lo i => cases q1
      | ow c0 =>
        simp only [Option.some.injEq] at q2
        subst q2
        obtain ⟨a1, e1, ⟨o, g1, _⟩, _, _, g4⟩ := hv
        cases e1
        have z := hn2 _ _ rfl rfl
        rw [g1] at z
        cases z
    · replace q1 : (st2.env.set i r.slot)[k]? = some (Slot.ow c') := q1
      rw [List.getElem?_set_ne (Ne.symm hk)] at q1 q2
      exact h4 k ⟨c', q1, q2⟩
  | lo k => exact absurd rfl hlo
end
end PM
set_option Elab.async false
set_option linter.all false
set_option maxRecDepth 100000
set_option maxHeartbeats 1200000
namespace PM
open PySem PySem.Spec L2
/-! ### comprehensions -/
def wipeE (env : List Slot) : List Nat → List Slot
  | [] => env
  | v :: vs => (wipeE env vs).set v .un
def State.wipe (st : State) (own : List Nat) : State := { st with env := wipeE st.env own }
def mYes : M Bool := M.pure true
def mCompL (own : List Nat) (g : D → State → Option State) (t : M Bool) (e : M RV) : List D → List D → M (List D)
  | [], acc => M.pure acc
  | d :: ds, acc => fun st => match g d (st.wipe own) with
    | none => .stuck
    | some st1 => match t st1 with
      | .ok true st2 => match e.frz st2 with
        | .ok x st3 => if acc.length < lim then mCompL own g t e ds (acc ++ [x]) (st3.wipe own) else .stuck
        | _ => .stuck
      | .ok false st2 => mCompL own g t e ds acc (st2.wipe own)
      | _ => .stuck
def mComp (own : List Nat) (it : M (List D)) (g : D → State → Option State) (t : M Bool) (e : M RV) : M RV := it.bind fun ds st => match mCompL own g t e ds [] (st.wipe own) with
  | .ok xs st' => .ok (.ow (.ls xs)) st'
  | _ => .stuck
section
theorem wipeE_len (env : List Slot) : ∀ vs, (wipeE env vs).length = env.length
  | [] => rfl
  | v :: vs => by unfold wipeE; rw [List.length_set, wipeE_len env vs]
theorem wipeE_some {env : List Slot} {i : Nat} {s : Slot} : ∀ {vs : List Nat}, (wipeE env vs)[i]? = some s → s = .un ∨ (env[i]? = some s ∧ i ∉ vs)
  | [], h => .inr ⟨h, by simp⟩
  | v :: vs, h => by
    unfold wipeE at h
    by_cases hv : v = i
    · subst hv
      by_cases hl : v < (wipeE env vs).length
      · rw [List.getElem?_set_self hl] at h; cases h; exact .inl rfl
      · rw [List.getElem?_eq_none (by simpa using hl)] at h; cases h
    · rw [List.getElem?_set_ne hv] at h
      rcases wipeE_some h with z | ⟨z1, z2⟩
      · exact .inl z
      · exact .inr ⟨z1, by simp only [List.mem_cons, not_or]; exact ⟨fun e => hv e.symm, z2⟩⟩
theorem wipe_out {σ : L2.St} {i : Nat} : ∀ {vs : List Nat}, i ∉ vs → (L2.wipe σ vs)[i]? = σ[i]?
  | [], _ => rfl
  | v :: vs, h => by
    simp only [List.mem_cons, not_or] at h
    unfold L2.wipe
    rw [List.getElem?_set_ne (fun e => h.1 e.symm)]
    exact wipe_out h.2
theorem wipe_len (σ : L2.St) : ∀ vs, (L2.wipe σ vs).length = σ.length
  | [] => rfl
  | v :: vs => by unfold L2.wipe; rw [List.length_set, wipe_len σ vs]
theorem wipe_ext {σ σ' : L2.St} : ∀ {vs : List Nat}, (∀ i, i ∉ vs → σ'[i]? = σ[i]?) → σ'.length = σ.length → L2.wipe σ' vs = L2.wipe σ vs := by
  intro vs h hl
  apply List.ext_getElem?
  intro i
  by_cases hi : i ∈ vs
  · have aux : ∀ (τ : L2.St) (vs : List Nat), i ∈ vs → (L2.wipe τ vs)[i]? = if i < τ.length then some none else none := by
      intro τ vs
      induction vs with
      | nil => intro h; cases h
      | cons v vs ih =>
        intro h
        unfold L2.wipe
        by_cases hv : v = i
        · subst hv
          by_cases hl : v < τ.length
          · rw [List.getElem?_set_self (by rw [wipe_len]; exact hl), if_pos hl]
          · rw [List.getElem?_eq_none (by rw [List.length_set, wipe_len]; omega), if_neg hl]
        · rw [List.getElem?_set_ne hv]
          exact ih ((List.mem_cons.mp h).resolve_left fun e => hv e.symm)
    rw [aux σ' vs hi, aux σ vs hi, hl]
  · rw [wipe_out hi, wipe_out hi, h i hi]
variable {K : PySem.W.Frag} {E : Ent} {σ : L2.St} {H H' : Hp} {st st' : State} {φ φ' : List Addr} {I I' : Hp} {own : List Nat}
theorem wipe_owns {i : Nat} {a : Addr} (h : Owns (wipeE st.env own) (L2.wipe σ own) i a) : Owns st.env σ i a := by
  obtain ⟨c, h1, h2⟩ := h
  rcases wipeE_some h1 with z | ⟨z1, z2⟩
  · cases z
  · rw [wipe_out z2] at h2
    exact ⟨c, z1, h2⟩
theorem Rp.wipe (R : Rp K E σ H st φ I) : Rp K E (L2.wipe σ own) H (st.wipe own) φ I :=
  ⟨R.ext, R.keep, R.there, R.inew, R.iold, R.pre, R.fl, R.pnew, R.nd, R.len, R.cells, R.pin, by show (wipeE st.env own).length = _; rw [wipeE_len, wipe_len]; exact R.elen, fun i d h => by
    rcases wipeE_some h with z | ⟨z1, z2⟩
    · cases z
    · rw [wipe_out z2]; exact R.sh i d z1, fun i c h => by
    rcases wipeE_some h with z | ⟨z1, z2⟩
    · cases z
    · rw [wipe_out z2]; exact R.ow i c z1, fun i j a h1 h2 => R.one i j a (wipe_owns h1) (wipe_owns h2)⟩
/-- back from the block's slots -/
theorem Rp.unwipe (R : Rp K E (L2.wipe σ own) H (st.wipe own) φ I) : Rp K E σ H (st.wipe own) φ I := by
  have back : ∀ i a, Owns (st.wipe own).env σ i a → Owns (st.wipe own).env (L2.wipe σ own) i a := fun i a ⟨c, h1, h2⟩ => by
    rcases wipeE_some (show (wipeE st.env own)[i]? = _ from h1) with z | ⟨z1, z2⟩
    · cases z
    · exact ⟨c, h1, by rw [wipe_out z2]; exact h2⟩
  refine ⟨R.ext, R.keep, R.there, R.inew, R.iold, R.pre, R.fl, R.pnew, R.nd, R.len, R.cells, R.pin, R.elen.trans (wipe_len _ _), fun i d h => ?_, fun i c h => ?_, fun i j a h1 h2 => R.one i j a (back _ _ h1) (back _ _ h2)⟩
  · rcases wipeE_some (show (wipeE st.env own)[i]? = _ from h) with z | ⟨z1, z2⟩
    · cases z
    · obtain ⟨v, h1, h2⟩ := R.sh i d h
      rw [wipe_out z2] at h1
      exact ⟨v, h1, h2⟩
  · rcases wipeE_some (show (wipeE st.env own)[i]? = _ from h) with z | ⟨z1, z2⟩
    · cases z
    · obtain ⟨a, h1, h2⟩ := R.ow i c h
      rw [wipe_out z2] at h1
      exact ⟨a, h1, h2⟩
/-- what a block's turn does, seen from outside: nothing but the things, what is shared and the frame's own may have changed -/
structure Bst (σ : L2.St) (H : Hp) (st : State) (φ : List Addr) (I : Hp) (H' : Hp) (φ' : List Addr) (I' : Hp) : Prop where
  pf : φ <+: φ'
  nf : ∀ a ∈ φ', a ∉ φ → H a = none
  ii : Ex I I'
  fr : ∀ a o, H a = some o → a ∉ φ → (∀ i, ¬ Owns st.env σ i a) → H' a = some o
  there : ∀ a, H a ≠ none → H' a ≠ none
  inf : ∀ a, I' a ≠ none → I a = none → H a = none ∨ a ∈ φ ∨ ∃ i, Owns st.env σ i a
theorem Stp.bst (S : Stp σ H st φ I H' st' φ' I') : Bst σ H st φ I H' φ' I' := ⟨S.pf, S.nf, S.ii, S.fr, S.there, S.inf⟩
theorem Bst.trans {H1 H2 : Hp} {st1 : State} {σ1 : L2.St} {p1 p2 : List Addr} {I1 I2 : Hp} (a : Bst σ H st φ I H1 p1 I1) (ho : ∀ i x, Owns st1.env σ1 i x → ∃ j, Owns st.env σ j x) (b : Bst σ1 H1 st1 p1 I1 H2 p2 I2) : Bst σ H st φ I H2 p2 I2 where
  pf := a.pf.trans b.pf
  nf := fun x hx hn => by
    by_cases h : x ∈ p1
    · exact a.nf x h hn
    · cases q : H x with
      | none => rfl
      | some o => exact absurd (b.nf x hx h) (a.there x (by rw [q]; simp))
  ii := a.ii.trans b.ii
  fr := fun x o e hn hno => by
    refine b.fr x o (a.fr x o e hn hno) (fun h => ?_) fun i h => ?_
    · have := a.nf x h hn
      rw [e] at this
      cases this
    · obtain ⟨j, q⟩ := ho i x h
      exact hno j q
  there := fun x h => b.there x (a.there x h)
  inf := fun x h hn => by
    cases q : I1 x with
    | some o => exact a.inf x (by rw [q]; simp) hn
    | none =>
      rcases b.inf x h q with z | z | ⟨i, z⟩
      · left
        cases q : H x with
        | none => rfl
        | some o => exact absurd z (a.there x (by rw [q]; simp))
      · by_cases hm : x ∈ φ
        · exact .inr (.inl hm)
        · exact .inl (a.nf x z hm)
      · exact .inr (.inr (ho i x z))
/-- nobody's thing stays -/
theorem own_keep {a : Addr} {c : Cell} (h : CellAt K φ I H a c) (h2 : a ∉ φ) (h4 : ∀ i, ¬ Owns st.env σ i a) (S : Bst σ H st φ I H' φ' I') : CellAt K φ' I' H' a c ∧ a ∉ φ' := by
  obtain ⟨o, g1, g2, g3⟩ := h
  refine ⟨⟨o, S.fr a o g1 h2 h4, ?_, g3.mono S.pf S.ii⟩, fun z => ?_⟩
  · cases q : I' a with
    | none => rfl
    | some u =>
      rcases S.inf a (by rw [q]; simp) g2 with z | z | ⟨i, z⟩
      · rw [g1] at z; cases z
      · exact absurd z h2
      · exact absurd z (h4 i)
  · have := S.nf a z h2
    rw [g1] at this
    cases this
end
/-- no exception is let out -/
def WF : WX := fun _ _ _ _ => False
theorem takesF {X : Cx} : Takes X WF := fun u s' h => by
  obtain ⟨a, B, sI, pins, σ, H, cls, d, e, I, nb, up, sky, na, os, ag, w⟩ := h
  exact w.elim
section
variable {X : Cx} {E : Ent} {W : WX} {pos : Pos}
theorem PTsi {e : List Expr} {t t' : TT} (h : PTs X e t) (k : ∀ σ H Q, t' σ H Q → t σ H Q) : PTs X e t' := ⟨fun p s σ H Q I q => h.run p s σ H Q I (k _ _ _ q)⟩
theorem sts_nil : PTs X [] (rdT X.K E W mYes) := PTsi pts_nil fun σ H Q ⟨st, φ, I, R, p⟩ => p.pure R
theorem sts_one {c : Expr} {m : M Bool} (h : ST X E W c m) : PTs X [c] (rdT X.K E W m) := pts_one h
/-- the run of a comprehension, where its items are at hand -/
theorem rd_comp {J : It} {g : D → State → Option State} {t : M Bool} {e : M RV} {own ts : List Nat} {σ : L2.St} {H1 : Hp} {st1 : State} {φ1 : List Addr} {I1 : Hp} {ds : List D} {Q : VK} (hts : ∀ i ∈ ts, i ∈ own) (R1 : Rp X.K E σ H1 st1 φ1 I1) (hJ : Walk X.K E J ds φ1 I1)
    (p : ∃ xs st', mCompL own g t e ds [] (st1.wipe own) = .ok xs st' ∧ ∀ v H' φ' I', Stp σ H1 st1 φ1 I1 H' st' φ' I' → Rp X.K E σ H' st' φ' I' → Rr X.K E σ H' st' φ' I' (.ow (.ls xs)) v → (∀ a, v = .ref a → H1 a = none) → Q v H') :
    ∀ D, H1 D = none → ∃ Wv : Nat → Nat → Hp → Prop, (∃ m, Wv 0 m (upd H1 D (.lst []))) ∧ ∀ i m H, Wv i m H →
      (J.stop i H ∧ Q (.ref D) H) ∨ (J.go i H ∧ ∃ Nx : Hp → Prop, (∀ H', Nx H' → ∃ m', m' < m ∧ Wv (i + 1) m' H') ∧ ∀ x H', J.yld i H x H' → rdG X.K E ts g x (L2.wipe σ own) H' fun σ2 H2 => L2.wipe σ2 own = L2.wipe σ own ∧ rdT X.K E WF t σ2 H2 fun b H3 =>
        if b = true then rdE X.K E WF e.frz σ2 H3 fun y H4 => ∃ acc, H4 D = some (.lst acc) ∧ acc.length < sizeLine ∧ Nx (upd H4 D (.lst (acc ++ [y]))) else Nx H3) := by
  intro Da hDa
  obtain ⟨xs, st', e0, fin⟩ := p
  -- the word: what is left to be done gives the same end
  let Wd : Nat → Hp → Prop := fun i H => ∃ (st : State) (φ : List Addr) (I : Hp) (acc : List PM.D), Rp X.K E (L2.wipe σ own) H (st.wipe own) φ I ∧ Bst σ H1 st1 φ1 I1 H φ I ∧ (∀ j a, Owns (st.wipe own).env (L2.wipe σ own) j a → Owns st1.env σ j a) ∧ CellAt X.K φ I H Da (.ls acc) ∧ Da ∉ φ ∧ (∀ j, ¬ Owns (st.wipe own).env (L2.wipe σ own) j Da) ∧
    mCompL own g t e (ds.drop i) acc (st.wipe own) = .ok xs st'
  refine ⟨fun i m H => m + i = ds.length ∧ Wd i H, ⟨ds.length, rfl, ?_⟩, ?_⟩
  · obtain ⟨R2, S2⟩ := R1.laidO hDa (.lst [])
    obtain ⟨f1, f2, f3, f4⟩ := R1.fresh hDa
    exact ⟨st1, φ1, I1, [], R2.wipe, S2.bst, fun j a h => wipe_owns h, ⟨_, upd_same, f3, .ls .nil⟩, f2, fun j h => f4 j (wipe_owns h), e0⟩
  · rintro i m H ⟨hm, st, φ, I, acc, R, B, ho, cD, nD, oD, e1⟩
    obtain ⟨w1, w2⟩ := hJ _ H _ φ I R ⟨B.pf, B.ii⟩ i
    by_cases hi : i < ds.length
    · refine .inr ?_
      have hd : ds.drop i = ds[i] :: ds.drop (i + 1) := List.drop_eq_getElem_cons hi
      rw [hd] at e1
      obtain ⟨go, yld⟩ := w1 ds[i] (List.getElem?_eq_getElem hi)
      refine ⟨go, Wd (i + 1), fun H' h => ⟨m - 1, by omega, by omega, h⟩, fun v H' hy => ?_⟩
      obtain ⟨I3, R3, S3, hv⟩ := yld v H' hy
      unfold mCompL at e1
      have ww : (st.wipe own).wipe own = st.wipe own := by
        unfold State.wipe
        congr 1
        apply List.ext_getElem?
        intro k
        cases q : (wipeE (wipeE st.env own) own)[k]? with
        | none =>
          have := List.getElem?_eq_none_iff.mp q
          rw [wipeE_len] at this
          exact (List.getElem?_eq_none this).symm
        | some s =>
          by_cases hk : k ∈ own
          · have aux : ∀ (τ : List Slot) (vs : List Nat) (s : Slot), k ∈ vs → (wipeE τ vs)[k]? = some s → s = .un := fun τ vs s hv hq => (wipeE_some hq).elim id fun z => absurd hv z.2
            have hk2 : k < (wipeE st.env own).length := by
              have := (List.getElem?_eq_some_iff.mp q).1
              rwa [wipeE_len] at this
            have e5 := aux _ _ _ hk q
            subst e5
            have e6 := List.getElem?_eq_getElem hk2
            rw [e6, aux _ _ _ hk e6]
          · rcases wipeE_some q with z | z
            · subst z
              have aux : ∀ (τ : List Slot) (vs : List Nat), k ∉ vs → (wipeE τ vs)[k]? = τ[k]? := by
                intro τ vs
                induction vs with
                | nil => intro _; rfl
                | cons v vs ih =>
                  intro h
                  simp only [List.mem_cons, not_or] at h
                  unfold wipeE
                  rw [List.getElem?_set_ne (fun e => h.1 e.symm)]
                  exact ih h.2
              rw [aux _ _ hk] at q
              exact q.symm
            · exact z.1.symm
      rw [ww] at e1
      cases eg : g ds[i] (st.wipe own) with
      | none => rw [eg] at e1; cases e1
      | some sg =>
        rw [eg] at e1
        simp only at e1
        refine ⟨st.wipe own, φ, I3, ds[i], sg, R3, hv, eg, fun σ2 O2 R4 => ⟨?_, ?_⟩⟩
        · have q := wipe_ext (σ := L2.wipe σ own) (σ' := σ2) (vs := own) (fun k hk => O2.same k fun z => hk (hts k z)) O2.len
          rw [q]
          refine wipe_ext (fun k hk => wipe_out hk) (wipe_len _ _)
        · have B3 := B.trans (fun j a h => ⟨j, ho j a h⟩) S3.bst
          obtain ⟨cD3, nD3⟩ := own_keep cD nD oD S3.bst
          have oD4 : ∀ j, ¬ Owns sg.env σ2 j Da := fun j h => oD j (O2.ow j Da h)
          have ho4 : ∀ j a, Owns sg.env σ2 j a → Owns st1.env σ j a := fun j a h => ho j a (O2.ow j a h)
          have wσ : L2.wipe σ2 own = L2.wipe σ own := by
            rw [wipe_ext (σ := L2.wipe σ own) (σ' := σ2) (vs := own) (fun k hk => O2.same k fun z => hk (hts k z)) O2.len]
            exact wipe_ext (fun k hk => wipe_out hk) (wipe_len _ _)
          refine ⟨sg, φ, I3, R4, ?_⟩
          cases et : t sg with
          | stuck => rw [et] at e1; cases e1
          | exc c s5 => rw [et] at e1; cases e1
          | ok b s5 =>
            rw [et] at e1
            intro H5 φ5 I5 S5 R5
            have B5 := B3.trans (st1 := sg) (σ1 := σ2) (fun j a h => ⟨j, ho4 j a h⟩) S5.bst
            obtain ⟨cD5, nD5⟩ := own_keep cD3 nD3 oD4 S5.bst
            have ho5 : ∀ j a, Owns s5.env σ2 j a → Owns st1.env σ j a := fun j a h => ho4 j a (S5.ow j a h)
            have oD5 : ∀ j, ¬ Owns s5.env σ2 j Da := fun j h => oD4 j (S5.ow j Da h)
            cases b with
            | false =>
              refine ⟨s5, φ5, I5, acc, ?_, B5, fun j a h => ?_, cD5, nD5, fun j h => ?_, e1⟩
              · have := R5.wipe (own := own)
                rwa [wσ] at this
              · rw [← wσ] at h; exact ho5 j a (wipe_owns h)
              · rw [← wσ] at h; exact oD5 j (wipe_owns h)
            | true =>
              simp only at e1
              refine ⟨s5, φ5, I5, R5, ?_⟩
              cases ee : e.frz s5 with
              | stuck => rw [ee] at e1; cases e1
              | exc c s6 => rw [ee] at e1; cases e1
              | ok x s6 =>
                rw [ee] at e1
                simp only at e1
                by_cases hz : acc.length < lim
                · rw [if_pos hz] at e1
                  intro H6 φ6 I6 S6 R6 y hy
                  have B6 := B5.trans (st1 := s5) (σ1 := σ2) (fun j a h => ⟨j, ho5 j a h⟩) S6.bst
                  obtain ⟨⟨o6, g1, g2, g3⟩, nD6⟩ := own_keep cD5 nD5 oD5 S6.bst
                  cases g3 with
                  | ls g3 =>
                    rename_i vs6
                    refine ⟨vs6, g1, by rw [← g3.len]; exact Nat.lt_trans hz lim_lt, ?_⟩
                    have ho6 : ∀ j a, Owns s6.env σ2 j a → Owns st1.env σ j a := fun j a h => ho5 j a (S6.ow j a h)
                    have oD6 : ∀ j, ¬ Owns s6.env σ2 j Da := fun j h => oD5 j (S6.ow j Da h)
                    have eD : E.H0 Da = none := (R1.fresh hDa).1
                    have U : ∀ b, b ≠ Da → upd H6 Da (.lst (vs6 ++ [y])) b = H6 b := fun b hb => upd_ne hb
                    have R7 : Rp X.K E σ2 (upd H6 Da (.lst (vs6 ++ [y]))) s6 φ6 I6 := by
                      refine ⟨fun b u q => ?_, fun b u q n => ?_, fun b q => ?_, R6.inew, R6.iold, R6.pre, R6.fl, R6.pnew, R6.nd, R6.len, fun j c2 b q1 q2 => ?_, fun b q => ?_, R6.elen, R6.sh, fun j c2 q => ?_, R6.one⟩
                      · rw [U b (fun z => by rw [z, g2] at q; cases q)]; exact R6.ext b u q
                      · rw [U b (fun z => by rw [z, eD] at q; cases q)]; exact R6.keep b u q n
                      · by_cases hb : b = Da
                        · rw [hb, upd_same]; simp
                        · rw [U b hb]; exact R6.there b q
                      · rcases R6.cells j c2 b q1 q2 with z | ⟨u, z1, z2, z3⟩
                        · exact .inl z
                        · exact .inr ⟨u, by rw [U b (fun z => nD6 (z ▸ List.mem_of_getElem? q2))]; exact z1, z2, z3⟩
                      · rw [U b (fun z => nD6 (z ▸ q))]; exact R6.pin b q
                      · obtain ⟨b, z1, ⟨u, z2, z3, z4⟩, z5, z6⟩ := R6.ow j c2 q
                        exact ⟨b, z1, ⟨u, by rw [U b (fun z => oD6 j ⟨c2, q, z ▸ z1⟩)]; exact z2, z3, z4⟩, z5, z6⟩
                    refine ⟨s6, φ6, I6, acc ++ [x], ?_, ?_, fun j a h => ?_, ⟨_, upd_same, g2, .ls (g3.append (.cons hy .nil))⟩, nD6, fun j h => ?_, e1⟩
                    · have := R7.wipe (own := own)
                      rwa [wσ] at this
                    · have hn1 : ∀ b, H1 b ≠ none → b ≠ Da := fun b q z => by rw [z] at q; exact q hDa
                      refine ⟨B6.pf, B6.nf, B6.ii, fun b u q n no => ?_, fun b q => ?_, B6.inf⟩
                      · rw [U b (hn1 b (by rw [q]; simp))]; exact B6.fr b u q n no
                      · rw [U b (hn1 b q)]; exact B6.there b q
                    · rw [← wσ] at h; exact ho6 j a (wipe_owns h)
                    · rw [← wσ] at h; exact oD6 j (wipe_owns h)
                · rw [if_neg hz] at e1
                  cases e1
    · refine .inl ⟨w2 (by omega), ?_⟩
      rw [List.drop_eq_nil_of_le (by omega)] at e1
      unfold mCompL at e1
      cases e1
      refine fin _ H φ I ⟨B.pf, B.nf, B.ii, B.fr, B.there, B.inf, fun j a h => ?_⟩ R.unwipe ⟨Da, rfl, cD, nD, (R1.fresh hDa).1, fun j h => ?_⟩ fun a h => by cases h; exact hDa
      · refine ho j a ?_
        obtain ⟨c, h1, h2⟩ := h
        rcases wipeE_some (show (wipeE st.env own)[j]? = _ from h1) with z | ⟨z1, z2⟩
        · cases z
        · exact ⟨c, h1, by rw [wipe_out z2]; exact h2⟩
      · refine oD j ?_
        obtain ⟨c, h1, h2⟩ := h
        rcases wipeE_some (show (wipeE st.env own)[j]? = _ from h1) with z | ⟨z1, z2⟩
        · cases z
        · exact ⟨c, h1, by rw [wipe_out z2]; exact h2⟩
end
end PM
set_option Elab.async false
set_option linter.all false
set_option maxRecDepth 100000
set_option maxHeartbeats 1200000
namespace PM
open PySem PySem.Spec L2
section
variable {X : Cx} {E : Ent} {W : WX} {pos : Pos} {elt tg iter : Expr} {ifs : List Expr} {scope : Scope} {own : List (Str × Nat)} {ts : List Nat} {mi : M (List D)} {g : D → State → Option State} {t : M Bool} {e : M RV}
theorem rd_lc {σ : L2.St} {H : Hp} {Q : VK} (hts : ∀ i ∈ ts, i ∈ own.map (·.2)) (h : rdR X.K E W (mComp (own.map (·.2)) mi g t e) σ H Q) :
    tLc (rdI X.K E W mi) (rdG X.K E ts g) (rdT X.K E WF t) (rdE X.K E WF e.frz) (own.map (·.2)) σ H Q := by
  obtain ⟨st, φ, I, R, p⟩ := h
  refine ⟨st, φ, I, R, (Po.bind p).imp fun ds H1 st1 φ1 I1 S1 R1 p1 J hJ => ?_⟩
  refine rd_comp hts R1 hJ ?_
  cases e0 : mCompL (own.map (·.2)) g t e ds [] (st1.wipe (own.map (·.2))) with
  | stuck => rw [e0] at p1; exact p1.elim
  | exc c s => rw [e0] at p1; exact p1.elim
  | ok xs st' =>
    rw [e0] at p1
    refine ⟨xs, st', rfl, fun v H' φ' I' S' R' hr hn => p1 H' φ' I' S' R' v hr fun a c _ e2 => ?_⟩
    have := hn a e2
    cases q : H a with
    | none => rfl
    | some o => exact absurd this (S1.there a (by rw [q]; simp))
theorem mComp_ow {own : List Nat} {st st' : State} {r : RV} (h : mComp own mi g t e st = .ok r st') : ∃ xs, r = .ow (.ls xs) := by
  unfold mComp M.bind at h
  cases e0 : mi st with
  | stuck => rw [e0] at h; cases h
  | exc c s => rw [e0] at h; cases h
  | ok ds s =>
    rw [e0] at h
    simp only at h
    cases e1 : mCompL own g t e ds [] (s.wipe own) with
    | stuck => rw [e1] at h; cases h
    | exc c s => rw [e1] at h; cases h
    | ok xs s2 => rw [e1] at h; cases h; exact ⟨xs, rfl⟩
theorem sr_comp (hc : X.calm = true) (hN : X.N.Nodup) (hi : SI X E W tg iter mi) (ok : BlkOk X.N X.env.scope scope own) (hts : ∀ i ∈ ts, i ∈ own.map (·.2))
    (hg : ∀ (s : Shared) (H : Hp) (C : Addr) (cl : List (Str × Addr)) (fp : List Addr), SG (X.blk s H scope (compEnvC scope cl C X.env) fp) E tg ts g)
    (ht : ∀ (s : Shared) (H : Hp) (C : Addr) (cl : List (Str × Addr)) (fp : List Addr), PTs (X.blk s H scope (compEnvC scope cl C X.env) fp) ifs (rdT X.K E WF t))
    (he : ∀ (s : Shared) (H : Hp) (C : Addr) (cl : List (Str × Addr)) (fp : List Addr), SR (X.blk s H scope (compEnvC scope cl C X.env) fp) E WF elt e) (hs : ∀ x, foldedSetIterable iter X.env x = Pure.pure x := by intro _; rfl) :
    SR X E W (.ListComp elt [⟨tg, iter, ifs, 0⟩] scope pos) (mComp (own.map (·.2)) mi g t e) :=
  PEi (pe_lc hc hN hi ok hg ht (fun s H C cl fp => se_frz (he s H C cl fp)) hs) fun _ _ _ h => rd_lc hts h
theorem ss_setLc (i : Nat) {y : Str} {py spos : Pos} (hc : X.calm = true) (hN : X.N.Nodup) (hi : SI X E W tg iter mi) (ok : BlkOk X.N X.env.scope scope own) (hts : ∀ i ∈ ts, i ∈ own.map (·.2))
    (hg : ∀ (s : Shared) (H : Hp) (C : Addr) (cl : List (Str × Addr)) (fp : List Addr), SG (X.blk s H scope (compEnvC scope cl C X.env) fp) E tg ts g)
    (ht : ∀ (s : Shared) (H : Hp) (C : Addr) (cl : List (Str × Addr)) (fp : List Addr), PTs (X.blk s H scope (compEnvC scope cl C X.env) fp) ifs (rdT X.K E WF t))
    (he : ∀ (s : Shared) (H : Hp) (C : Addr) (cl : List (Str × Addr)) (fp : List Addr), SR (X.blk s H scope (compEnvC scope cl C X.env) fp) E WF elt e)
    (hy : X.N[i]? = some y := by rfl) (hyl : X.env.scope.names.lookup y = some .local := by rfl) (hsw : swapsWith (.ListComp elt [⟨tg, iter, ifs, 0⟩] scope pos) (some (.Name y py)) spos.line X.env = Pure.pure true := by exact sw_true rfl rfl rfl (by decide +kernel)) (hs : ∀ x, foldedSetIterable iter X.env x = Pure.pure x := by intro _; rfl) :
    SS X E W (.Assign [.Name y py] (.ListComp elt [⟨tg, iter, ifs, 0⟩] scope pos) spos) (mSet i (mComp (own.map (·.2)) mi g t e)) :=
  PSi (ps_setLc hc hN hy hyl hsw hi ok hg ht (fun s H C cl fp => se_frz (he s H C cl fp)) hs) fun D σ H ⟨st, φ, I, R, p⟩ => by
    refine rd_lc (g := g) (t := t) (e := e) hts ⟨st, φ, I, R, ?_⟩
    have p1 := Ps.then (σ := σ) (H := H) p
    unfold M.fix M.bind at p1
    cases e0 : mComp (own.map (·.2)) mi g t e st with
    | stuck => rw [e0] at p1; exact p1.elim
    | exc c s => rw [e0] at p1; exact p1
    | ok r s =>
      obtain ⟨xs, rfl⟩ := mComp_ow e0
      rw [e0] at p1
      exact fun H1 φ1 I1 S1 R1 v hv _ => (p1 H1 φ1 I1 S1 R1) _ H1 φ1 I1 Grow.refl (R1.setR hv)
/-! ### methods that change a list -/
def isLs : D → Option Unit
  | .lst _ => some ()
  | _ => none
/-- a method of a list: f of the items and the arguments gives the value and the new items -/
def lsC (f : List D → List D → Option (D × List D)) (args : List D) : Cell → Option (D × Cell)
  | .ls ds => (f ds args).map fun p => (p.1, .ls p.2)
  | _ => none
def mMut (f : List D → List D → Option (D × List D)) (a : M RV) (args : M (List D)) : M RV := a.bor.bind fun r => (at1 isLs r).bind fun _ => args.bind fun ds st => match upC (lsC f ds) r st with
  | some (d, st') => .ok (.sh d) st'
  | none => .stuck
/-- the rule of such a method -/
def MutR (X : Cx) (E : Ent) (id : String) (f : List D → List D → Option (D × List D)) : Prop := ∀ (σ : L2.St) (H : Hp) (st : State) (φ : List Addr) (I : Hp) (a : Addr) (vs us : List V) (ds es ds' : List D) (d : D) (Q : VK), Rp X.K E σ H st φ I → H a = some (.lst vs) → Rvs X.K φ I ds vs → Rvs X.K φ I es us → f ds es = some (d, ds') →
  (∀ u vs', Rv X.K φ I d u → Rvs X.K φ I ds' vs' → Q u (upd H a (.lst vs'))) → ∃ r, MtR X id r ∧ r (.ref a) us H Q
def rdM (K : PySem.W.Frag) (E : Ent) (f : List D → List D → Option (D × List D)) : V → List V → Hp → VK → Prop := fun x us H Q => ∃ (σ : L2.St) (st : State) (φ : List Addr) (I : Hp) (a : Addr) (vs : List V) (ds es ds' : List D) (d : D), x = .ref a ∧ Rp K E σ H st φ I ∧ H a = some (.lst vs) ∧ Rvs K φ I ds vs ∧ Rvs K φ I es us ∧ f ds es = some (d, ds') ∧
  ∀ u vs', Rv K φ I d u → Rvs K φ I ds' vs' → Q u (upd H a (.lst vs'))
theorem mt_of {id : String} {f : List D → List D → Option (D × List D)} (h : MutR X E id f) : MtR X id (rdM X.K E f) := fun pins s σ' H x us v ws Q I0 rx rv ⟨σ, st, φ, I, a, vs, ds, es, ds', d, ex, R, g1, g2, g3, g4, q⟩ => by
  subst ex
  obtain ⟨r, h1, h2⟩ := h σ H st φ I a vs us ds es ds' d Q R g1 g2 g3 g4 q
  exact h1 pins s σ' H (.ref a) us v ws Q I0 rx rv h2
theorem view_bor {σ : L2.St} {H : Hp} {st : State} {φ : List Addr} {I : Hp} {r : RV} {v : V} {ds : List D} (R : Rp X.K E σ H st φ I) (hr : Rr X.K E σ H st φ I r v) (e : view st r = some (.lst ds)) : ∃ a vs, v = .ref a ∧ H a = some (.lst vs) ∧ Rvs X.K φ I ds vs := (hr.seen Stp.refl R e).lst R.ext
theorem rd_mut {o : M RV} {args : M (List D)} {f : List D → List D → Option (D × List D)} {σ : L2.St} {H : Hp} {Q : VK} (h : rdR X.K E W (mMut f o args) σ H Q) : tBM X.K "list" (rdM X.K E f) (rdR X.K E W o.bor) (rdA X.K E W args) σ H Q := by
  obtain ⟨st, φ, I, R, p⟩ := h
  unfold mMut at p
  refine ⟨st, φ, I, R, ?_⟩
  have p0 := Po.bind p
  unfold M.bor M.bind at p0 ⊢
  cases e0 : o st with
  | stuck => rw [e0] at p0; exact p0.elim
  | exc c s => rw [e0] at p0; exact p0
  | ok r0 st1 =>
    rw [e0] at p0
    intro H1 φ1 I1 S1 R1 v hv _
    have p1 := Po.bind (p0 H1 φ1 I1 S1 R1)
    obtain ⟨x, _, ex, e1, p2⟩ := Po.at1 p1
    cases x <;> try (cases e1; done)
    obtain ⟨a, vs, rfl, g1, g2⟩ := view_bor R1 hv ex
    refine ⟨.inl ⟨rfl, vs, .inl (.inl g1)⟩, st1, φ1, I1, R1, (Po.bind (p2 H1 φ1 I1 Stp.refl R1)).imp fun es H2 st2 φ2 I2 S2 R2 p3 us hus => ?_⟩
    cases e3 : upC (lsC f es) r0.bor st2 with
    | none => rw [e3] at p3; exact p3.elim
    | some q =>
      obtain ⟨d, st3⟩ := q
      rw [e3] at p3
      obtain ⟨a', c, c', ob, e4, g3, g4, g5, g6⟩ := R2.up (f := lsC f es) rfl (hv.step S2 bor_no) e3
      cases e4
      cases g4 <;> try (cases g5; done)
      rename_i ds2 vs2 g4
      obtain ⟨⟨d', ds'⟩, e5, e6⟩ := Option.map_eq_some_iff.mp g5
      cases e6
      refine ⟨σ, st2, φ2, I2, a, vs2, ds2, es, _, _, rfl, R2, g3, g4, hus, e5, fun u vs' hu hvs' => ?_⟩
      obtain ⟨R3, S3⟩ := g6 _ (.ls hvs')
      exact p3 _ φ2 I2 S3 R3 u hu Nw.sh
variable {o a b : Expr} {mo ma mb : M RV} {es : List Expr} {mas : M (List D)} {name : Str} {id : String} {apos cpos : Pos} {f : List D → List D → Option (D × List D)}
theorem sr_mut (hm : MutR X E id f) (slot : PySem.Slot "list" name id) (hty : typeOf (.builtin id) = Pure.pure (.type "method_descriptor")) (ho : SR X E W o mo) (ha : SA X E W (a :: es) mas)
    (hbase : attributeBase o name X.env (eval o X.env) = eval o X.env := by rfl)
    (hfew : ((backTo cpos (starEach (a :: es) X.env)).all (fun x => !x.1) && (backToKw cpos (keywordEach [] X.env)).all (fun x => x.1.isSome)
      && decide ((a :: es).length + ([] : List Keyword).length + (if ([] : List Keyword).isEmpty then 0 else 1) < 30)) = true := by rfl)
    (hline : (apos.endLine == cpos.line) = true := by rfl) (hs : starEach (a :: es) X.env = (false, eval a X.env) :: starEach es X.env := by rfl) (hplain : (backTo cpos (starEach es X.env)).any (·.1) = false := by rfl) :
    SR X E W (.Call (.Attribute o name apos) (a :: es) [] cpos) (mMut f mo mas) := PEi (pe_bm PySem.F.plainAttrs_list slot hty (mt_of hm) (sr_bor ho) ha hbase hfew hline hs hplain) fun _ _ _ h => rd_mut h
def fApp (ds : List D) : List D → Option (D × List D)
  | [d] => if ds.length < lim then some (.non, ds ++ [d]) else none
  | _ => none
theorem mu_app : MutR X E "list.append" fApp := fun σ H st φ I a vs us ds es ds' d Q R g1 g2 g3 g4 q => by
  match es, g3, g4 with
  | [x], .cons hx .nil, g4 =>
    simp only [fApp] at g4
    by_cases hz : ds.length < lim
    · rw [if_pos hz] at g4
      cases g4
      exact ⟨_, mt_append, a, vs, _, rfl, rfl, g1, by rw [← g2.len]; exact Nat.lt_trans hz lim_lt, q _ _ .non (g2.append (.cons hx .nil))⟩
    · rw [if_neg hz] at g4
      cases g4
def fPop (ds : List D) : List D → Option (D × List D)
  | [] => ds.getLast?.map fun d => (d, ds.dropLast)
  | [.int i] => if 0 ≤ i ∧ i.toNat < 1000000 then (ds[i.toNat]?).map fun d => (d, ds.eraseIdx i.toNat) else none
  | _ => none
theorem Rvs.dropLast {K : PySem.W.Frag} {φ : List Addr} {I : Hp} {ds : List D} {vs : List V} (h : Rvs K φ I ds vs) : Rvs K φ I ds.dropLast vs.dropLast := by
  rw [List.dropLast_eq_take, List.dropLast_eq_take, h.len]
  exact h.take _
/-! ### methods of texts -/
variable {g0 : D → Option RV} {g2 : D → D → Option RV}
def isSt : D → Option Unit
  | .str _ => some ()
  | _ => none
def mS1 (g : D → D → Option RV) (a b : M RV) : M RV := a.bor.bind fun r => (at1 isSt r).bind fun _ => b.bor.bind fun s => at2 g r s
end
end PM
set_option Elab.async false
set_option linter.all false
set_option maxRecDepth 100000
set_option maxHeartbeats 1200000
namespace PM
open PySem PySem.Spec L2
/-! ### a new thing goes to the store -/
section
variable {K : PySem.W.Frag} {E : Ent} {σ : L2.St} {H H0 : Hp} {st st0 : State} {φ φ0 : List Addr} {I I0 : Hp}
theorem Rp.store (R : Rp K E σ H st φ I) (S : Stp σ H0 st0 φ0 I0 H st φ I) {c : Cell} {v : V} (h : Rr K E σ H st φ I (.ow c) v) (hf : Nw σ H0 st0 (.ow c) v) :
    ∃ a, v = .ref a ∧ Rp K E σ H { st with store := st.store ++ [c] } (φ ++ [a]) I ∧ Stp σ H0 st0 φ0 I0 H { st with store := st.store ++ [c] } (φ ++ [a]) I := by
  obtain ⟨a, rfl, h1, h2, h3, h4⟩ := h
  have pf : φ <+: φ ++ [a] := ⟨[a], rfl⟩
  refine ⟨a, rfl, ⟨R.ext, R.keep, R.there, fun b z n => ?_, R.iold, ?_, R.fl.pp pf, fun b z => ?_, ?_, by simp [R.len], fun i c' b e1 e2 => ?_, fun b z => ?_, R.elen, fun i d e => ?_, fun i c' e => ?_, R.one⟩, ?_⟩
  · exact R.inew b z n
  · obtain ⟨m, e⟩ := R.pre
    exact ⟨m ++ [a], by rw [e, List.append_assoc]⟩
  · rcases List.mem_append.mp z with z | z
    · exact R.pnew b z
    · rw [List.mem_singleton.mp z]; exact .inr h3
  · refine List.nodup_append.mpr ⟨R.nd, by simp, fun x hx y hy e => ?_⟩
    rw [List.mem_singleton.mp hy] at e
    exact h2 (e ▸ hx)
  · by_cases hi : i < st.store.length
    · rw [List.getElem?_append_left hi] at e1
      rw [List.getElem?_append_left (by rw [R.len]; exact hi)] at e2
      rcases R.cells i c' b e1 e2 with z | z
      · exact .inl z
      · exact .inr (z.mono pf (Ex.refl _) z.choose_spec.2.1 fun _ q => q)
    · rw [List.getElem?_append_right (by omega)] at e1
      rw [List.getElem?_append_right (by rw [R.len]; omega), R.len] at e2
      have hz : i - st.store.length = 0 := by
        by_cases q : i - st.store.length = 0
        · exact q
        · rw [List.getElem?_eq_none (by simp; omega)] at e1
          cases e1
      rw [hz] at e1 e2
      cases e1
      cases e2
      exact .inr (h1.mono pf (Ex.refl _) h1.choose_spec.2.1 fun _ q => q)
  · rcases List.mem_append.mp z with z | z
    · exact R.pin b z
    · rw [List.mem_singleton.mp z, h1.choose_spec.1]; simp
  · obtain ⟨v, q1, q2⟩ := R.sh i d e
    exact ⟨v, q1, q2.mono pf (Ex.refl _)⟩
  · obtain ⟨b, q1, q2, q3, q4⟩ := R.ow i c' e
    refine ⟨b, q1, q2.mono pf (Ex.refl _) q2.choose_spec.2.1 fun _ q => q, fun z => ?_, q4⟩
    rcases List.mem_append.mp z with z | z
    · exact q3 z
    · have z := List.mem_singleton.mp z
      subst z
      exact h4 i ⟨c', e, q1⟩
  · refine ⟨S.pf.trans pf, fun b z n => ?_, S.ii, S.fr, S.there, S.inf, S.ow⟩
    rcases List.mem_append.mp z with z | z
    · exact S.nf b z n
    · rw [List.mem_singleton.mp z]; exact hf a c rfl rfl
end
/-- a new thing, known to all from now on -/
def mNew (m : M RV) : M RV := m.bind fun r st => match r with
  | .ow c => .ok (.sh (.obj st.store.length)) { st with store := st.store ++ [c] }
  | _ => .stuck
section
variable {X : Cx} {E : Ent} {W : WX} {pos : Pos} {e a b : Expr} {m ma mb : M RV}
theorem sr_new (h : SR X E W e m) : SR X E W e (mNew m) := PEi h fun σ H Q ⟨st, φ, I, R, p⟩ => by
  refine ⟨st, φ, I, R, ?_⟩
  unfold mNew M.bind at p
  cases e1 : m st with
  | stuck => rw [e1] at p; exact p.elim
  | exc c s => rw [e1] at p; exact p
  | ok r st1 =>
    rw [e1] at p
    cases r with
    | sh d => exact p.elim
    | lo i => exact p.elim
    | ow c =>
      intro H1 φ1 I1 S1 R1 v hr hn
      obtain ⟨a, rfl, R2, S2⟩ := R1.store S1 hr hn
      refine p H1 (φ1 ++ [a]) I1 S2 R2 _ (.obj ?_) Nw.sh
      rw [← R1.len]
      exact List.getElem?_concat_length ..
/-! ### a dict display -/
def mPr : List (M RV × M RV) → M (List (D × D))
  | [] => M.pure []
  | (k, v) :: r => k.frz.bind fun x => v.frz.bind fun y => (mPr r).bind fun ps => M.pure ((x, y) :: ps)
def asKs : List (D × D) → Option (List (Key × D))
  | [] => some []
  | (k, v) :: r => (asKey k).bind fun x => (asKs r).map fun ps => (x, v) :: ps
def mergeD (kvs more : List (Key × D)) : List (Key × D) := more.foldl (fun acc kv => dput acc kv.1 kv.2) kvs
def mDisp (trs : List (M RV × M RV)) : M RV := (mPr trs).bind fun ps => match asKs ps with
  | some kvs => if kvs.length ≤ 15 then M.pure (.ow (.dc (mergeD [] kvs))) else M.stuck
  | none => M.stuck
abbrev SPr (X : Cx) (E : Ent) (W : WX) (pos : Pos) (ks : List (Option Expr)) (vs : List Expr) (trs : List (M RV × M RV)) : Prop := PPs X pos ks vs (trs.map fun p => (rdE X.K E W p.1.frz, rdE X.K E W p.2.frz))
variable {ks : List (Option Expr)} {vs : List Expr} {trs : List (M RV × M RV)}
theorem spr_nil : SPr X E W pos [] [] [] := pps_nil
theorem spr_cons (ha : SR X E W a ma) (hb : SR X E W b mb) (hr : SPr X E W pos ks vs trs) : SPr X E W pos (some a :: ks) (b :: vs) ((ma, mb) :: trs) := pps_cons (se_frz ha) (se_frz hb) hr
inductive Prs (K : PySem.W.Frag) (φ : List Addr) (I : Hp) : List (D × D) → List (V × V) → Prop
  | nil : Prs K φ I [] []
  | cons {x y : D} {u v : V} {r s} : Rv K φ I x u → Rv K φ I y v → Prs K φ I r s → Prs K φ I ((x, y) :: r) ((u, v) :: s)
theorem rd_pr {K : PySem.W.Frag} : ∀ {trs : List (M RV × M RV)} {σ : L2.St} {H : Hp} {st : State} {φ : List Addr} {I : Hp} {k : List (D × D) → Hp → State → List Addr → Hp → Prop} {Q : List (V × V) → Hp → Prop}, Rp K E σ H st φ I → Po K E W σ (mPr trs st) H st φ I k →
    (∀ ps us H' st' φ' I', Stp σ H st φ I H' st' φ' I' → Rp K E σ H' st' φ' I' → Prs K φ' I' ps us → k ps H' st' φ' I' → Q us H') → tPairs (trs.map fun p => (rdE K E W p.1.frz, rdE K E W p.2.frz)) σ H Q
  | [], σ, H, st, φ, I, k, Q, R, p, h => h [] [] H st φ I Stp.refl R .nil (p.pure R)
  | (a, b) :: r, σ, H, st, φ, I, k, Q, R, p, h => by
    refine ⟨st, φ, I, R, (Po.bind p).imp fun x H1 st1 φ1 I1 S1 R1 p1 u hu => ?_⟩
    refine ⟨st1, φ1, I1, R1, (Po.bind p1).imp fun y H2 st2 φ2 I2 S2 R2 p2 v hv => ?_⟩
    refine rd_pr R2 (Po.bind p2) fun ps us H3 st3 φ3 I3 S3 R3 hp p3 => ?_
    exact h _ _ H3 st3 φ3 I3 ((S1.trans S2).trans S3) R3 (.cons (hu.mono (S2.pf.trans S3.pf) (S2.ii.trans S3.ii)) (hv.mono S3.pf S3.ii) hp) (p3.pure R3)
theorem prs_keys {K : PySem.W.Frag} {φ : List Addr} {I : Hp} : ∀ {ps : List (D × D)} {us : List (V × V)} {kvs : List (Key × D)}, Prs K φ I ps us → asKs ps = some kvs → ∃ ws : List (Key × V), us = ws.map (fun kv => (kV kv.1, kv.2)) ∧ ws.map (·.1) = kvs.map (·.1) ∧ Rvs K φ I (kvs.map (·.2)) (ws.map (·.2))
  | [], _, _, .nil, e => by cases e; exact ⟨[], rfl, rfl, .nil⟩
  | (x, y) :: r, _, _, .cons hx hy hr, e => by
    obtain ⟨k, e1, e2⟩ := Option.bind_eq_some_iff.mp e
    obtain ⟨ps, e3, rfl⟩ := Option.map_eq_some_iff.mp e2
    obtain ⟨ws, rfl, h1, h2⟩ := prs_keys hr e3
    have := asKey_rv hx e1
    subst this
    exact ⟨(k, _) :: ws, rfl, by simp [h1], .cons hy h2⟩
theorem mergeD_rel {K : PySem.W.Frag} {φ : List Addr} {I : Hp} : ∀ {more : List (Key × D)} {ws : List (Key × V)} {kvs : List (Key × D)} {us : List (Key × V)}, us.map (·.1) = kvs.map (·.1) → Rvs K φ I (kvs.map (·.2)) (us.map (·.2)) → ws.map (·.1) = more.map (·.1) → Rvs K φ I (more.map (·.2)) (ws.map (·.2)) →
    (mergeK us ws).map (·.1) = (mergeD kvs more).map (·.1) ∧ Rvs K φ I ((mergeD kvs more).map (·.2)) ((mergeK us ws).map (·.2))
  | [], [], _, _, h1, h2, _, _ => ⟨h1, h2⟩
  | [], _ :: _, _, _, _, _, h3, _ => by cases h3
  | _ :: _, [], _, _, _, _, h3, _ => by cases h3
  | (k, d) :: more, (k', v) :: ws, kvs, us, h1, h2, h3, h4 => by
    simp only [List.map_cons, List.cons.injEq] at h3 h4
    obtain ⟨rfl, h3⟩ := h3
    cases h4 with
    | cons h4 h5 =>
      obtain ⟨q1, q2⟩ := dput_rel (k := k') h1 h2 h4
      show (mergeK (putK us k' v) ws).map (·.1) = (mergeD (dput kvs k' d) more).map (·.1) ∧ Rvs K φ I ((mergeD (dput kvs k' d) more).map (·.2)) ((mergeK (putK us k' v) ws).map (·.2))
      exact mergeD_rel (kvs := dput kvs k' d) (us := putK us k' v) q1 q2 h3 h5
theorem Po.from {K : PySem.W.Frag} {α : Type} {o : Out α} {σ : L2.St} {H H1 : Hp} {st st1 : State} {φ φ1 : List Addr} {I I1 : Hp} {k : α → Hp → State → List Addr → Hp → Prop} (S : Stp σ H st φ I H1 st1 φ1 I1) (h : Po K E W σ o H st φ I k) : Po K E W σ o H1 st1 φ1 I1 k := by
  cases o with
  | ok a st => exact fun H' φ' I' S' => h H' φ' I' (S.trans S')
  | exc c st => exact fun d H' φ' I' S' => h d H' φ' I' (S.trans S')
  | stuck => exact h
theorem Po.bindA {K : PySem.W.Frag} {α β : Type} {m : M α} {f : α → M β} {σ : L2.St} {H : Hp} {st : State} {φ : List Addr} {I : Hp} {k : β → Hp → State → List Addr → Hp → Prop} (h : Po K E W σ (m.bind f st) H st φ I k) :
    Po K E W σ (m st) H st φ I fun a _ st1 _ _ => Po K E W σ (f a st1) H st φ I k := by
  unfold M.bind at h
  cases e : m st with
  | ok a st1 => rw [e] at h; exact fun _ _ _ _ _ => h
  | exc c st1 => rw [e] at h; exact h
  | stuck => rw [e] at h; exact h
/-- a thing that nobody knows of changes -/
theorem Rp.updN {K : PySem.W.Frag} {σ : L2.St} {H : Hp} {st : State} {φ : List Addr} {I : Hp} {q : Addr} (R : Rp K E σ H st φ I) (hI : I q = none) (hφ : q ∉ φ) (h0 : E.H0 q = none) (ho : ∀ i, ¬ Owns st.env σ i q) (o : HO) : Rp K E σ (upd H q o) st φ I := by
  refine ⟨fun a u e => ?_, fun a u e n => ?_, fun a h => ?_, R.inew, R.iold, R.pre, R.fl, R.pnew, R.nd, R.len, fun i c a h1 h2 => ?_, fun a h => ?_, R.elen, R.sh, fun i c h => ?_, R.one⟩
  · rw [upd_ne (show a ≠ q from fun z => by rw [z, hI] at e; cases e)]; exact R.ext a u e
  · rw [upd_ne (show a ≠ q from fun z => by rw [z, h0] at e; cases e)]; exact R.keep a u e n
  · by_cases hb : a = q
    · rw [hb, upd_same]; simp
    · rw [upd_ne hb]; exact R.there a h
  · rcases R.cells i c a h1 h2 with z | ⟨u, z1, z2, z3⟩
    · exact .inl z
    · exact .inr ⟨u, by rw [upd_ne (show a ≠ q from fun z => hφ (z ▸ List.mem_of_getElem? h2))]; exact z1, z2, z3⟩
  · by_cases hb : a = q
    · rw [hb, upd_same]; simp
    · rw [upd_ne hb]; exact R.pin a h
  · obtain ⟨a, h1, ⟨u, z1, z2, z3⟩, h3, h4⟩ := R.ow i c h
    exact ⟨a, h1, ⟨u, by rw [upd_ne (show a ≠ q from fun z => ho i ⟨c, h, z ▸ h1⟩)]; exact z1, z2, z3⟩, h3, h4⟩
theorem Stp.updN {σ : L2.St} {H H0 : Hp} {st st0 : State} {φ φ0 : List Addr} {I I0 : Hp} {q : Addr} (S : Stp σ H0 st0 φ0 I0 H st φ I) (hq : H0 q = none) (o : HO) : Stp σ H0 st0 φ0 I0 (upd H q o) st φ I :=
  ⟨S.pf, S.nf, S.ii, fun a u e n h => by rw [upd_ne (show a ≠ q from fun z => by rw [z, hq] at e; cases e)]; exact S.fr a u e n h, fun a h => by
    by_cases hb : a = q
    · rw [hb, upd_same]; simp
    · rw [upd_ne hb]; exact S.there a h, S.inf, S.ow⟩
theorem sr_disp (h : SPr X E W pos ks vs trs) (hall : ks.all (·.isSome) = true := by rfl) (hl : ks.length = vs.length := by rfl) (h0 : ks ≠ [] := by exact List.cons_ne_nil _ _) (h15 : ks.length ≤ 15 := by decide) : SR X E W (.Dict ks vs pos) (mDisp trs) := PEi (pe_disp h hall hl h0 h15) fun σ H Q ⟨st, φ, I, R, p⟩ => by
  intro q hq
  obtain ⟨R1, S1⟩ := R.laidO hq (.dK [])
  obtain ⟨h0, hφ, hI, ho⟩ := R.fresh hq
  refine rd_pr R1 (Po.from S1 (Po.bindA p)) fun ps us H3 st3 φ3 I3 S3 R3 hp p3 => ?_
  have own3 : ∀ i, ¬ Owns st3.env σ i q := fun i z => ho i (S3.ow i q z)
  have e3 : H3 q = some (.dK []) := S3.fr q _ upd_same hφ ho
  have i3 : I3 q = none := by
    cases z : I3 q with
    | none => rfl
    | some u =>
      rcases S3.inf q (by rw [z]; simp) hI with y | y | ⟨i, y⟩
      · rw [upd_same] at y; cases y
      · exact absurd y hφ
      · exact absurd y (ho i)
  have f3 : q ∉ φ3 := fun z => by
    have := S3.nf q z hφ
    rw [upd_same] at this
    cases this
  refine ⟨e3, ?_⟩
  cases ek : asKs ps with
  | none => rw [ek] at p3; exact p3.elim
  | some kvs =>
    rw [ek] at p3
    by_cases hz : kvs.length ≤ 15
    · simp only [if_pos hz] at p3
      obtain ⟨ws, rfl, h1, h2⟩ := prs_keys hp ek
      obtain ⟨m1, m2⟩ := mergeD_rel (kvs := []) (us := []) rfl .nil h1 h2
      refine ⟨ws, rfl, ?_, ?_⟩
      · have := congrArg List.length h1
        rw [List.length_map, List.length_map] at this
        omega
      · have R4 := R3.updN i3 f3 h0 own3 (.dK (mergeK [] ws))
        exact p3 _ φ3 I3 ((S1.trans S3).updN hq _) R4 _ ⟨q, rfl, ⟨_, upd_same, i3, .dc m1 m2⟩, f3, h0, own3⟩ fun a c _ e => by cases e; exact hq
    · simp only [if_neg hz] at p3
      exact p3.elim
theorem sr_disp0 : SR X E W (.Dict [] [] pos) (mDisp []) := PEi pe_dnewK fun σ H Q ⟨st, φ, I, R, p⟩ => by
  have p' : Po X.K E W σ (.ok (.ow (.dc [])) st) H st φ I fun r H' st' φ' I' => ∀ v, Rr X.K E σ H' st' φ' I' r v → Nw σ H st r v → Q v H' := p
  intro q hq
  obtain ⟨R2, S2⟩ := R.laidO hq (.dK [])
  obtain ⟨h0, hφ, hI, ho⟩ := R.fresh hq
  exact p' _ φ _ S2 R2 _ ⟨q, rfl, ⟨_, upd_same, hI, .dc rfl .nil⟩, hφ, h0, ho⟩ fun a c _ e => by cases e; exact hq
end
end PM
set_option Elab.async false
set_option linter.all false
set_option maxRecDepth 100000
set_option maxHeartbeats 1200000
namespace PM
open PySem PySem.Spec L2
section
variable {X : Cx} {E : Ent} {W : WX} {pos : Pos} {e a b : Expr} {m ma mb : M RV}
/-! ### is, in -/
def opIs2 : D → D → Option Bool
  | .bl x, .bl y => some (decide (x = y))
  | x, y => opIs x y
def opIsNot2 (x y : D) : Option Bool := (opIs2 x y).map (!·)
theorem ob_is2 : OpB X E (compareOp .Is) opIs2 := op_cases fun v w H Q ⟨σ, st, φ, I, x, y, r, R, hx, hy, e, q⟩ => by
  by_cases h : ∃ a b, x = .bl a ∧ y = .bl b
  · obtain ⟨a, b, rfl, rfl⟩ := h
    cases e
    exact ⟨_, op_is_bl, a, b, hx.bl, hy.bl, q⟩
  · have e' : opIs x y = some r := by
      unfold opIs2 at e
      split at e
      · exact absurd ⟨_, _, rfl, rfl⟩ h
      · exact e
    exact ⟨_, ob_is, σ, st, φ, I, x, y, r, R, hx, hy, e', q⟩
theorem ob_isnot2 : OpB X E (compareOp .IsNot) opIsNot2 := op_cases fun v w H Q ⟨σ, st, φ, I, x, y, r, R, hx, hy, e, q⟩ => by
  obtain ⟨r', e1, rfl⟩ := Option.map_eq_some_iff.mp e
  clear e
  by_cases h : ∃ a b, x = .bl a ∧ y = .bl b
  · obtain ⟨a, b, rfl, rfl⟩ := h
    cases e1
    exact ⟨_, op_isnot_bl, a, b, hx.bl, hy.bl, q⟩
  · have e' : opIs x y = some r' := by
      unfold opIs2 at e1
      split at e1
      · exact absurd ⟨_, _, rfl, rfl⟩ h
      · exact e1
    exact ⟨_, ob_isnot, σ, st, φ, I, x, y, _, R, hx, hy, by unfold opIsNot; rw [e']; rfl, q⟩
/-! ### isinstance of a built-in class, or a pair of them -/
def opKind : D → Option String
  | .non => some "NoneType"
  | .bl _ => some "bool"
  | .int _ => some "int"
  | .str _ => some "str"
  | .tup _ => some "tuple"
  | .tpF _ => some "tuple"
  | .lst _ => some "list"
  | .lsF _ => some "list"
  | .dct _ => some "dict"
  | _ => none
theorem opKind_ty {K : PySem.W.Frag} {φ : List Addr} {I H : Hp} {d : D} {v : V} {T : String} (hx : Ex I H) (h : Seen K φ I H d v) (e : opKind d = some T) : TyX K H v (.type T) := by
  cases d <;> simp only [opKind, Option.some.injEq, reduceCtorEq] at e <;> subst e
  · rw [h.non]; exact .base .non
  · rw [h.bl]; exact .base (.bl _)
  · rw [h.int]; exact .base (.int _)
  · rw [h.str]; exact .base (.str _)
  · obtain ⟨a, vs, rfl, h1, _⟩ := h.tup hx; exact .base (.tup h1)
  · obtain ⟨a, vs, rfl, h1, _⟩ := h.lst hx; exact .base (.lst h1)
  · obtain ⟨a, vs, rfl, h1, _⟩ := h.lsF hx
    rcases h1 with (h1 | ⟨o, h1⟩) | ⟨o, its, n, h1, h2, _⟩
    · exact .base (.lst h1)
    · exact .base (.frz h1)
    · exact .kList h1 h2
  · obtain ⟨a, vs, rfl, h1, _⟩ := h.tpF hx
    rcases h1 with (h1 | ⟨o, h1⟩) | ⟨o, its, n, h1, h2, _⟩
    · exact .base (.tup h1)
    · exact .fTuple h1
    · exact .kTuple h1 h2
  · obtain ⟨a, vs, rfl, h1, _⟩ := h.dct hx
    rcases h1 with h1 | ⟨o, h1⟩
    · exact .base (.dK h1)
    · exact .fDict h1
variable {p : Pos} {x : Str}
theorem sr_ty {T : String} (hg : Gl X x) (hm : X.mg x = none) (hv : bootBuiltins x = some (.type T)) (hn : x ≠ "__name__" := by decide) (hdb : (x == ("__debug__" : Str)) = false := by decide) : SR X E W (.Name x pos) (mL (.val (.ty T))) :=
  sr_lit (pe_bltn (v := .ty T) hg hm hv rfl hn hdb) fun _ _ => .val _
/-- the built-in types of a display -/
def tysOf : List D → Option (List String)
  | [] => some []
  | .val (.ty T) :: r => (tysOf r).map (T :: ·)
  | _ => none
def kitBs (k : String) : List String → Option Bool
  | [] => some false
  | T :: Ts => (kitB k T).bind fun b => if b then some true else kitBs k Ts
def opIsi (x y : D) : Option RV := match y with
  | .val (.ty T) => (opKind x).bind fun k => (kitB k T).map fun b => .sh (.bl b)
  | .tup ds => (tysOf ds).bind fun Ts => (opKind x).bind fun k => (kitBs k Ts).map fun b => .sh (.bl b)
  | _ => none
theorem tys_rv {K : PySem.W.Frag} {φ : List Addr} {I : Hp} : ∀ {ds : List D} {vs : List V} {Ts : List String}, Rvs K φ I ds vs → tysOf ds = some Ts → Paired ClsV vs (Ts.map Value.type)
  | [], _, _, .nil, e => by cases e; exact .nil
  | d :: ds, _, _, .cons h1 h2, e => by
    cases d <;> try (cases e; done)
    rename_i v
    cases v <;> try (cases e; done)
    obtain ⟨Ts, e1, rfl⟩ := Option.map_eq_some_iff.mp e
    cases h1
    exact .cons (.ty _) (tys_rv h2 e1)
theorem kitBs_ok {K : PySem.W.Frag} {k : String} : ∀ {Ts : List String} {b : Bool}, kitBs k Ts = some b → PySem.W.kitAny K (.type k) (Ts.map Value.type) = some b
  | [], _, e => by cases e; exact kitAny_nil
  | T :: Ts, b, e => by
    obtain ⟨c, e1, e2⟩ := Option.bind_eq_some_iff.mp e
    refine kitAny_cons (kit_ty e1) (fun z => ?_) fun z => ?_
    · subst z
      exact kitBs_ok e2
    · subst z
      exact (Option.some.inj e2).symm
theorem cl_isi : CallR X (.builtin "isinstance") (rdC2 X.K E opIsi) := call_cases fun vs H Q ⟨v, w, e0, σ, st, φ, I, x, y, r, R, hx, hy, e, q⟩ => by
  subst e0
  unfold opIsi at e
  split at e
  · rename_i T
    obtain ⟨k, e1, e⟩ := Option.bind_eq_some_iff.mp e
    obtain ⟨b, e2, rfl⟩ := Option.map_eq_some_iff.mp e
    have hw : w = .ty T := by
      rcases hy with hy | ⟨a, c, _, e, _⟩
      · cases hy; rfl
      · cases c <;> cases e
    subst hw
    exact ⟨_, call_isi, v, .ty T, _, _, b, rfl, .ty T, opKind_ty R.ext hx e1, kit_ty e2, q.sh R (.bl b)⟩
  · rename_i ds
    obtain ⟨Ts, e0, e⟩ := Option.bind_eq_some_iff.mp e
    obtain ⟨k, e1, e⟩ := Option.bind_eq_some_iff.mp e
    obtain ⟨b, e2, rfl⟩ := Option.map_eq_some_iff.mp e
    obtain ⟨a, cs, rfl, g1, g2⟩ := hy.tup R.ext
    exact ⟨_, call_isiT, v, a, cs, _, _, b, rfl, g1, tys_rv g2 e0, opKind_ty R.ext hx e1, kitBs_ok e2, q.sh R (.bl b)⟩
  · cases e
/-! ### all, any of a list of bools -/
def asBs : List D → Option (List Bool)
  | [] => some []
  | .bl b :: r => (asBs r).map (b :: ·)
  | _ => none
theorem asBs_rv {K : PySem.W.Frag} {φ : List Addr} {I : Hp} : ∀ {ds : List D} {vs : List V} {bs : List Bool}, Rvs K φ I ds vs → asBs ds = some bs → vs = bs.map V.bl
  | [], _, _, .nil, e => by cases e; rfl
  | d :: ds, _, _, .cons h1 h2, e => by
    cases d <;> try (cases e; done)
    obtain ⟨r, e1, rfl⟩ := Option.map_eq_some_iff.mp e
    cases h1
    rw [asBs_rv h2 e1]
    rfl
def opAll (d : D) : Option RV := (asL d).bind fun ds => (asBs ds).map fun bs => .sh (.bl (bs.all id))
theorem cl_all (hc : X.calm = true) : CallR X (.builtin "all") (rdC1 X.K E opAll) := call_cases fun vs H Q ⟨v, e0, σ, st, φ, I, x, r, R, hx, e, q⟩ => by
  subst e0
  obtain ⟨ds, e1, e⟩ := Option.bind_eq_some_iff.mp e
  obtain ⟨bs, e2, rfl⟩ := Option.map_eq_some_iff.mp e
  obtain ⟨a, us, rfl, h1, h2⟩ := hx.asL R.ext e1
  have := asBs_rv h2 e2
  subst this
  exact ⟨_, cr_all hc, a, bs, rfl, h1, q.sh R (.bl _)⟩
/-! ### l.count(x) -/
/-- o.m(x), o a list that stays as it is -/
def isLst : D → Option Unit
  | .lst _ => some ()
  | _ => none
def mL1 (g : D → D → Option RV) (a b : M RV) : M RV := a.bor.bind fun r => (at1 isLst r).bind fun _ => b.bor.bind fun s => at2 g r s
/-! ### f'..' -/
def opFmt : D → Option RV
  | .str z => if z.length ≤ lim then some (.sh (.str z)) else none
  | .int i => if i.natAbs.log2 < 1920 then some (.sh (.str (toString i))) else none
  | _ => none
def mFm (a : M RV) : M RV := a.bor.bind fun r => at1 opFmt r
def mJs : List (M RV) → Str → M Str
  | [], acc => M.pure acc
  | m :: ms, acc => m.bind fun r => match r with
    | .sh (.str z) => if (acc ++ z).length ≤ lim then mJs ms (acc ++ z) else M.stuck
    | _ => M.stuck
def mJoin (ms : List (M RV)) : M RV := (mJs ms Str.empty).bind fun z => M.pure (.sh (.str z))
/-! ### range(i, j, c) -/
variable {c tg : Expr} {mc : M RV}
/-! ### o.m(x) of a list -/
variable {o : Expr} {mo : M RV} {name : Str} {id : String} {apos : Pos} {g2 : D → D → Option RV}
end
end PM
set_option Elab.async false
set_option linter.all false
set_option maxRecDepth 100000
set_option maxHeartbeats 1200000
namespace PM
open PySem PySem.Spec L2
/-- what a body's rule must give -/
abbrev Bod (P : Program) (w : World) (K : PySem.W.Frag) (mg : Str → Option Value) (base : Heap) (k : Nat) (f : Addr) (qual : Str) (scope : Scope) (N : List Str) (cdv : Value) (body : List Stmt) (ms : MS) : Prop :=
  ∀ (A : Around) (outer : List Env) (s : Shared) (H : Hp) (Ee : Ent) (E : XK), Room k (A.deeper (PyProof.Rows.envOfC qual scope s.heap.objs.size f cdv)) → (A.deeper (PyProof.Rows.envOfC qual scope s.heap.objs.size f cdv)).guards = some [] →
      Takes (cxOf (L2.CX P w) P w K mg base N qual scope f cdv A outer s H E) (fun cls d _ H => E cls d H) → SSs (cxOf (L2.CX P w) P w K mg base N qual scope f cdv A outer s H E) Ee (fun cls d _ H => E cls d H) body ms
section
variable {P : Program} {w : World} {K : PySem.W.Frag} {mg : Str → Option Value} {base : Heap} {k : Nat} {f : Addr} {m : Nat} {ks : List Str} {name qual : Str} {params : Arguments} {body : List Stmt} {scope : Scope} {N ps : List Str} {ms : MS} {kws : List (Str × V)} {fd : FuncData}
/-- a def without defaults, called with m places and the keywords ks -/
theorem fn_d (F : FunD K name qual params body scope [] kws f fd) (S : FnScope N ps scope) (pick : ∀ {α : Type}, List α → List α) (hpick : ∀ {α β : Type} (R : α → β → Prop) (xs : List α) (ys : List β), Paired R xs ys → Paired R (pick xs) (pick ys)) (hlen : ∀ {α : Type} (xs : List α), xs.length = m + ks.length → (pick xs).length = ps.length)
    (hb : ∀ (kV doc pm : Value) (an : Option Addr) (cdv ct : Value) (us : List Value), us.length = m + ks.length → bindArgs (PySem.W.fnOf name qual params body scope .none kV doc pm an cdv ct) ⟨us.take m, ks.zip (us.drop m)⟩ = pure (ps.zip (pick us)))
    (hbody : ∀ cdv, Bod P w K mg base k f qual scope N cdv body ms) : FnC P w K mg base (k + 1) f m ks (fun ds store => runF ms (N.length - ps.length) (pick ds) store) := by
  obtain ⟨oc, od, dV, kV, doc, pm, an, cdv, ct, osl, rfl, lk, hcd, hD, _⟩ := F.ex
  rcases hD with ⟨_, rfl⟩ | ⟨e, _⟩
  · exact fn_c (ds0 := []) (dd0 := []) (dv0 := []) pick hpick lk hcd S (fun s us _ hl => .of_eq (hb kV doc pm an cdv ct us hl)) hlen (hbody cdv)
  · exact absurd rfl e
/-- .. all by position -/
theorem fn_p (F : FunD K name qual params body scope [] kws f fd) (S : FnScope N ps scope) (hm : m = ps.length := by rfl)
    (hb : ∀ (kV doc pm : Value) (an : Option Addr) (cdv ct : Value) (us : List Value), us.length = ps.length → bindArgs (PySem.W.fnOf name qual params body scope .none kV doc pm an cdv ct) ⟨us, []⟩ = pure (ps.zip us))
    (hbody : ∀ cdv, Bod P w K mg base k f qual scope N cdv body ms) : FnC P w K mg base (k + 1) f m [] (runF ms (N.length - ps.length)) := by
  subst hm
  refine fn_d (ks := []) F S (fun xs => xs) (fun _ _ _ h => h) (fun xs h => h) (fun kV doc pm an cdv ct us hl => ?_) hbody
  have e : us.take ps.length = us := List.take_of_length_le (by rw [hl]; exact Nat.le_refl _)
  rw [e]
  exact hb kV doc pm an cdv ct us hl
end
/-! ### def f(a, *b) -/
/-! ### the end of a law -/
section
open PySem.W
theorem rvs_ints {K : Frag} {φ : List Addr} {I : Hp} : ∀ ns : List Int, Rvs K φ I (ns.map D.int) (ns.map V.int)
  | [] => .nil
  | n :: ns => .cons (.int n) (rvs_ints ns)
theorem law_endC {l : OpenLaw} {k : Nat} {q : Program} {loose : List Str} {XP : (Str → Option Value) → Heap → Prop} {YP : World → Heap → Prop} {d : DefRec} (hn : l.most = some 63) (hdf : d.params.defaults = []) (hr : Room k callerA)
    (G : ∀ (w : World) (mg : Str → Option Value) (fa : Addr) (h : Heap), YP w h → h.Ns mainGlobals mg → mg d.name = some (.ref fa) →
      ∃ (K : Frag) (F : Fn), K.In h ∧ (∀ base : Heap, K.In base → base.Ns mainGlobals mg → FnC l.prog w K mg base k fa 1 [] F) ∧ ∀ ns : List Int, ns.length ≤ 63 → (∀ z ∈ ns, Builtin.Int.intBits z ≤ 1048576) → ∃ st, F [.lsF (ns.map .int)] [] = .ret (.sh (.bl true)) st) :
    WalkO q loose XP YP l.row.toRowW d [] (fun f vs => PySem.call f vs) := by
  refine Att.attach_callB hn hdf fun w s₀ s₁ mg mb fa o pm cd doc a vs ns Gr Y ho hd hcd hmg hobj hints hlen hbits hgen => ?_
  obtain ⟨K, F, KX, hF, hend⟩ := G w mg fa _ Y Gr.T.g hmg
  obtain ⟨store', hret⟩ := hend ns hlen hbits
  have rv := vals_ints hints
  have hsz : (ns.map V.int).length ≤ sizeLine := by rw [List.length_map]; exact Nat.le_trans hlen (by decide)
  -- the heap in which the script alone is told of, if it is no object of the module
  obtain ⟨S, hS⟩ : ∃ S : Hp, S = fun b => if b = a ∧ K.lookup a = none then some (HO.frz { cls := .type "list", data := .seq vs.toArray } (.lst (ns.map V.int))) else none := ⟨_, rfl⟩
  have at_ : ∀ b u, S b = some u → b = a ∧ K.lookup a = none ∧ u = .frz { cls := .type "list", data := .seq vs.toArray } (.lst (ns.map V.int)) := fun b u e => by
    subst hS
    by_cases c : b = a ∧ K.lookup a = none
    · exact ⟨c.1, c.2, (Option.some.inj ((if_pos c).symm.trans e)).symm⟩
    · exact absurd ((if_neg c).symm.trans e) (fun z => nomatch z)
  have off : ∀ {b : Addr} {ob : Obj}, s₁.heap.get? b = some ob → (∀ z n, ob.data ≠ .seq z n) → S b = none := fun {b ob} e nd => by
    cases c : S b with
    | none => rfl
    | some u =>
      obtain ⟨rfl, _⟩ := at_ b u c
      rw [hobj] at e
      cases e
      exact absurd rfl (nd _ _)
  have stay : ∀ {b : Addr} {ob : Obj}, s₁.heap.get? b = some ob → S b = none → (hidT s₁.heap S).get? b = some ob := fun e n => hidT_get e n
  have names : ∀ {b : Addr} {t : Str → Option Value}, s₁.heap.Ns b t → (hidT s₁.heap S).Ns b t := fun {b t} ⟨ob, es, ep, e, dd, r⟩ => ⟨ob, es, ep, stay e (off e fun z n c => by rw [dd] at c; cases c), dd, r⟩
  have KB : K.In (hidT s₁.heap S) := fun b ob e => stay (KX b ob e) (by
    cases c : S b with
    | none => rfl
    | some u =>
      obtain ⟨rfl, c2, _⟩ := at_ b u c
      rw [c2] at e
      cases e)
  have modul : Mod K mg (hidT s₁.heap S) := by
    obtain ⟨mc, n1, n2⟩ := Gr.T.nolimit
    exact ⟨KB, names Gr.T.g, ⟨mb, names Gr.T.b, Gr.T.builtins⟩, mc, names n1, n2⟩
  have hok : HOk l.prog w S s₁.heap := fun b u c => by
    obtain ⟨rfl, _, rfl⟩ := at_ b u c
    exact ⟨hobj, hsz, vs, _, rv, hobj⟩
  have env : Env0 l.prog w K mg (hidT s₁.heap S) callerA [] s₁ S :=
    { frames := rfl, mod := modul, bs := fun b ob e => of_hidT e, bsz := Nat.le_of_eq (hidT_size _ _), funs := trivial, frf := fun b hb => absurd (show b ∈ ([] : List Addr) from hb) List.not_mem_nil, hok := hok, bare := .of_eq hgen }
  have seen : SqL K S a (ns.map V.int) := by
    cases c : K.lookup a with
    | none => exact .inl (.inr ⟨_, by rw [hS]; exact if_pos ⟨rfl, c⟩⟩)
    | some ob =>
      have e := KX a ob c
      rw [hobj] at e
      cases e
      exact .inr ⟨_, vs.toArray, _, c, rfl, rfl, rfl, by rw [List.size_toArray, ← rv.length]; exact hsz, by simpa using rv⟩
  have asks : spOf K F [.ref a] S (fun v _ => v = .bl true) fun _ _ _ => False :=
    ⟨[.lsF (ns.map .int)], [], [], S, ⟨Ex.refl _, List.nodup_nil, rfl, fun i c b e => by simp at e, fun b hb => absurd hb List.not_mem_nil⟩, .cons (.lsF seen (rvs_ints ns)) .nil, by
      rw [hret]
      exact fun v H' φ' I' _ hr => by cases (show Rv K φ' I' (.bl true) v from hr); rfl⟩
  refine codeAny_mono (hF _ KB (names Gr.T.g) callerA [] s₁ S [.ref a] [.ref a] _ _ hr rfl env (.cons rfl .nil) rfl asks) fun r s' out => ?_
  match r, out with
  | .error e, out =>
    obtain ⟨_, _, _, _, _, _, _, _, _, _, _, _, z⟩ := out
    exact z.elim
  | .ok (.ret u), ⟨v, H', os, bare, un, hok', rel, eq⟩ =>
    subst eq
    obtain rfl : u = Value.bool true := rel
    refine ⟨rfl, OldK.of_keep fun b ob e => ?_, os, bare⟩
    cases c : S b with
    | none => exact un.keep b ob e c (fun z => absurd (show b ∈ ([] : List Addr) from z) List.not_mem_nil) (by simp)
    | some u =>
      obtain ⟨rfl, _, rfl⟩ := at_ b u c
      obtain ⟨e2, _⟩ := hok' b _ (un.frzs b _ _ c)
      rw [hobj] at e
      cases e
      exact e2
end
end PM
set_option Elab.async false
set_option linter.all false
set_option maxRecDepth 100000
set_option maxHeartbeats 1200000
namespace PM
open PySem PySem.Spec L2
/-- the number at a slot -/
def natAt (st : State) (i : Nat) : Nat := match st.env[i]? with
  | some (.sh (.int z)) => z.natAbs
  | _ => 0
theorem FnC.stuck {P : Program} {w : World} {K : PySem.W.Frag} {mg : Str → Option Value} {base : Heap} {k : Nat} {f : Addr} {m : Nat} {ks : List Str} : FnC P w K mg base k f m ks (fun _ _ => .stuck) :=
  fun _ _ _ _ _ _ _ _ _ _ _ _ _ ⟨_, _, _, _, _, _, h⟩ => h.elim
theorem hq_of {A : Around} {k : Nat} (hr : Room k A) : A.units + 64 < cLine := by have := hr.un; omega
theorem hi_of {A : Around} {k : Nat} (hr : Room k A) : A.units + 65 < cLine := by have := hr.un; omega
end PM
set_option Elab.async false
set_option linter.all false
set_option maxRecDepth 100000
set_option maxHeartbeats 1200000
namespace PM
open PySem PySem.Spec L2
/-! ### instances: their fields -/
def thing (st : State) : RV → Option (Str × List (Str × D))
  | .sh (.rcd C fs) => some (C, fs)
  | .sh (.obj n) => match st.store[n]? with
    | some (.ins C fs) => some (C, fs)
    | _ => none
  | _ => none
def putD (f : Str) (d : D) : List (Str × D) → List (Str × D)
  | [] => [(f, d)]
  | (g, x) :: r => if g = f then (g, d) :: r else (g, x) :: putD f d r
section
variable {K : PySem.W.Frag} {E : Ent} {σ : L2.St} {H H' : Hp} {st st' : State} {φ φ' : List Addr} {I I' : Hp}
theorem lookup_rel {f : Str} {d : D} : ∀ {fs : List (Str × D)} {us : List (Str × V)}, us.map (·.1) = fs.map (·.1) → Rvs K φ I (fs.map (·.2)) (us.map (·.2)) → fs.lookup f = some d → ∃ v, us.lookup f = some v ∧ Rv K φ I d v
  | [], _, _, _, e => by cases e
  | _ :: _, [], h, _, _ => by cases h
  | (g, x) :: fs, (g', y) :: us, h, hr, e => by
    simp only [List.map_cons, List.cons.injEq] at h hr
    obtain ⟨rfl, h⟩ := h
    cases hr with
    | cons h1 h2 =>
      rw [List.lookup_cons] at e ⊢
      cases q : (f == g') with
      | true => rw [q] at e; cases e; exact ⟨y, rfl, h1⟩
      | false => rw [q] at e; exact lookup_rel h h2 e
theorem putD_rel {f : Str} {d : D} {v : V} (hv : Rv K φ I d v) : ∀ {fs : List (Str × D)} {us : List (Str × V)}, us.map (·.1) = fs.map (·.1) → Rvs K φ I (fs.map (·.2)) (us.map (·.2)) →
    (putF f v us).map (·.1) = (putD f d fs).map (·.1) ∧ Rvs K φ I ((putD f d fs).map (·.2)) ((putF f v us).map (·.2))
  | [], [], _, _ => ⟨rfl, .cons hv .nil⟩
  | [], _ :: _, h, _ => by cases h
  | _ :: _, [], h, _ => by cases h
  | (g, x) :: fs, (g', y) :: us, h, hr => by
    simp only [List.map_cons, List.cons.injEq] at h hr
    obtain ⟨rfl, h⟩ := h
    cases hr with
    | cons h1 h2 =>
      by_cases q : g' = f
      · simp only [putF, putD, if_pos q, List.map_cons]
        exact ⟨by rw [h], .cons hv h2⟩
      · obtain ⟨i1, i2⟩ := putD_rel hv h h2
        simp only [putF, putD, if_neg q, List.map_cons]
        exact ⟨by rw [i1], .cons h1 i2⟩
theorem Rr.thing {r : RV} {v : V} {C : Str} {fs : List (Str × D)} (hr : Rr K E σ H st φ I r v) (S : Stp σ H st φ I H' st' φ' I') (R : Rp K E σ H' st' φ' I') (h : thing st' r = some (C, fs)) :
    ∃ a dx us, v = .ref a ∧ H' a = some (.ins (He.ga K C) dx us) ∧ us.map (·.1) = fs.map (·.1) ∧ Rvs K φ' I' (fs.map (·.2)) (us.map (·.2)) := by
  cases r with
  | ow c => cases h
  | lo i => cases h
  | sh d =>
    have hr' : Rv K φ' I' d v := (show Rv K φ I d v from hr).mono S.pf S.ii
    cases d <;> try (cases h; done)
    · rename_i n
      simp only [PM.thing] at h
      cases q : st'.store[n]? with
      | none => rw [q] at h; cases h
      | some c =>
        rw [q] at h
        cases c <;> try (cases h; done)
        cases h
        cases hr' with
        | obj e =>
          rename_i a
          rcases R.cells n _ a q e with z | ⟨o, g1, g2, g3⟩
          · cases z
          · cases g3 with
            | ins g4 g5 => exact ⟨a, _, _, rfl, g1, g4, g5⟩
    · cases h
      cases hr' with
      | rcd e1 e2 e3 => exact ⟨_, _, _, rfl, R.ext _ _ e1, e2, e3⟩
end
/-- e.f, e an instance of one of these classes -/
def mFld (Cs : List Str) (f : Str) (a : M RV) : M RV := a.bor.bind fun r st => match thing st r with
  | some (C, fs) => if Cs.contains C then (match fs.lookup f with
    | some d => .ok (.sh d) st
    | none => .stuck) else .stuck
  | none => .stuck
def putFC (Cs : List Str) (f : Str) (d : D) : Cell → Option (D × Cell)
  | .ins C fs => if Cs.contains C ∧ fs.length < 1000 then some (.non, .ins C (putD f d fs)) else none
  | _ => none
/-- o.f = e -/
def mSetF (Cs : List Str) (f : Str) (o v : M RV) : MS := v.frz.then fun d => o.bor.then fun r st => match upC (putFC Cs f d) r.bor st with
  | some (_, st') => .nx st'
  | none => .stuck
section
variable {X : Cx} {E : Ent} {W : WX} {pos pos' : Pos} {e o a b : Expr} {m mo ma mb : M RV} {f : Str} {Cs : List Str}
theorem sr_fld (hc : ∀ C ∈ Cs, Cls X.K (He.ga X.K C) ∧ NoAttr X.K (He.ga X.K C) f) (h : SR X E W e m) (hb : attributeBase e f X.env (eval e X.env) = eval e X.env := by rfl) : SR X E W (.Attribute e f pos) (mFld Cs f m) := PEi (pe_fld (sr_bor h) hb) fun σ H Q ⟨st, φ, I, R, p⟩ => by
  refine ⟨st, φ, I, R, (Po.bind p).imp fun r H1 st1 φ1 I1 S1 R1 p1 v hv _ => ?_⟩
  cases q : thing st1 r with
  | none => rw [q] at p1; exact p1.elim
  | some t =>
    obtain ⟨C, fs⟩ := t
    rw [q] at p1
    simp only at p1
    by_cases hC : Cs.contains C = true
    · rw [if_pos hC] at p1
      cases ql : fs.lookup f with
      | none => rw [ql] at p1; exact p1.elim
      | some d =>
        rw [ql] at p1
        obtain ⟨a, dx, us, rfl, h1, h2, h3⟩ := hv.thing Stp.refl R1 q
        obtain ⟨w, g1, g2⟩ := lookup_rel h2 h3 ql
        obtain ⟨c1, c2⟩ := hc C (by simpa using hC)
        exact ⟨a, _, dx, us, w, rfl, h1, c1, c2, g1, p1 H1 φ1 I1 Stp.refl R1 w g2 Nw.sh⟩
    · rw [if_neg hC] at p1
      exact p1.elim
theorem ss_fld (hc : ∀ C ∈ Cs, Cls X.K (He.ga X.K C) ∧ NoAttr X.K (He.ga X.K C) f) (ho : SR X E W o mo) (hv : SR X E W e m) (hs : swapsWith e (some (.Attribute o f pos')) pos.line X.env = pure false := by rfl) :
    SS X E W (.Assign [.Attribute o f pos'] e pos) (mSetF Cs f mo m) := PSi (ps_fld (sr_bor ho) (se_frz hv) hs) fun D σ H ⟨st, φ, I, R, p⟩ => by
  refine ⟨st, φ, I, R, (Ps.then p).imp fun d H1 st1 φ1 I1 S1 R1 p1 y hy => ?_⟩
  refine ⟨st1, φ1, I1, R1, (Ps.then p1).imp fun r H2 st2 φ2 I2 S2 R2 p2 x hx _ => ?_⟩
  cases e1 : upC (putFC Cs f d) r.bor st2 with
  | none => rw [e1] at p2; exact p2.elim
  | some q =>
    obtain ⟨dn, st3⟩ := q
    rw [e1] at p2
    have hx' : Rr X.K E σ H2 st2 φ2 I2 r.bor x ∨ ∃ c, r = .ow c := by
      cases r with
      | sh d => exact .inl hx
      | lo i => exact .inl hx
      | ow c => exact .inr ⟨c, rfl⟩
    rcases hx' with hx' | ⟨c, rfl⟩
    · obtain ⟨a, c, c', ob, e4, g3, g4, g5, g6⟩ := R2.up (f := putFC Cs f d) rfl hx' e1
      subst e4
      cases g4 <;> try (cases g5; done)
      rename_i C dx fs us k1 k2
      by_cases hC : Cs.contains C ∧ fs.length < 1000
      · simp only [putFC, if_pos hC, Option.some.injEq, Prod.mk.injEq] at g5
        obtain ⟨_, rfl⟩ := g5
        obtain ⟨c1, c2⟩ := hc C (by simpa using hC.1)
        obtain ⟨i1, i2⟩ := putD_rel (f := f) (hy.mono S2.pf S2.ii) k1 k2
        obtain ⟨R3, S3⟩ := g6 (.ins (He.ga X.K C) dx (putF f y us)) (.ins i1 i2)
        refine ⟨a, _, dx, us, rfl, g3, c1, c2, ?_, p2 _ _ φ2 I2 S3.grow R3⟩
        have := congrArg List.length k1
        rw [List.length_map, List.length_map] at this
        rw [this]
        exact hC.2
      · simp only [putFC, if_neg hC] at g5
        cases g5
    · cases c <;> cases e1
end
/-! ### making -/
/-- C(args), by F, the worth of its __init__ -/
def mMake (C : Str) (n : Nat) (F : Fn) (args : M (List D)) : M RV := args.bind fun ds st => if ds.length = n then (match F (.obj st.store.length :: ds) (st.store ++ [.ins C []]) with
  | .ret (.sh .non) store' => .ok (.sh (.obj st.store.length)) { st with store := store' }
  | .exc c store' => .exc c { st with store := store' }
  | _ => .stuck) else .stuck
section
variable {X : Cx} {E : Ent} {W : WX} {pos p : Pos} {k m : Nat} {C : Str} {f : Addr} {F : Fn} {x : Str} {e : Expr} {es : List Expr} {ma : M (List D)}
theorem under_guards {A : Around} {C : Addr} {us : List Value} {kw : List (Str × Value)} : (A.under (.builtin "type.__call__" ⟨.ref C :: us, kw⟩)).guards = A.guards := by
  first | rfl | simp [Around.under]
theorem run_makeC {C : Addr} {pins : List (Addr × Obj)} {σ : L2.St} {H : Hp} {s : Shared} {Q : VK} {us : List Value} {vs : List V} (mk : Mk X.K C f) (hF : FnC X.prog X.w X.K X.mg X.base k f (m + 1) [] F) (hr : Room (k + 1) X.A) (hgd : X.A.guards = some []) (tk : Takes X W)
    (I : Inv X pins σ H s) (r : Vals vs us) (hm : us.length = m)
    (h : ∀ x dx, H x = none → H dx = none → dx ≠ x → spOf X.K F (.ref x :: vs) (upd (upd H dx (.own x)) x (.ins C dx [])) (fun v H2 => v = .non ∧ Q (.ref x) H2) (WE W σ)) : wpAny (model X.prog X.w) X.A (call (.ref C) us) (EP X pins σ Q) X.xe s := by
  have big := I.hok.fresh (Nat.le_succ s.heap.objs.size)
  have hq := h _ _ big (I.hok.fresh (Nat.le_refl _)) (Nat.ne_of_lt (Nat.lt_succ_self _))
  have J := Inv.made (C := C) I
  have c := hF _ X.stack _ _ (Value.ref (s.heap.objs.size + 1) :: us) (V.ref (s.heap.objs.size + 1) :: vs) _ (WE W σ) (hr.make C us []) (by rw [under_guards]; exact hgd) (J.env0.make C us []) (.cons rfl r) (by rw [List.length_cons, hm]; rfl) hq
  have e1 : (Value.ref (s.heap.objs.size + 1) :: us).take (m + 1) = Value.ref (s.heap.objs.size + 1) :: us := List.take_of_length_le (by rw [List.length_cons, hm]; exact Nat.le_refl _)
  rw [e1] at c
  refine wpAny_call (make_map (f := f) I.kIn mk.makes mk.init (beq_iff_eq.mp mk.fn) (codeAny_mono c fun r s' out => ?_))
  match r, out with
  | .error e, out => exact passAt tk σ pins _ _ e s' J out
  | .ok (.ret u), out =>
    obtain ⟨v, H', J', rv, ev, q3⟩ := J.after out
    subst ev
    exact ⟨rv, V.ref (s.heap.objs.size + 1), H', J', rfl, q3⟩
theorem rd_make {σ : L2.St} {H : Hp} {Q : VK} (h : rdR X.K E W (mMake C m F ma) σ H Q) : rdA X.K E W ma σ H fun vs H1 => vs.length = m ∧ ∀ x dx, H1 x = none → H1 dx = none → dx ≠ x → spOf X.K F (.ref x :: vs) (upd (upd H1 dx (.own x)) x (.ins (He.ga X.K C) dx [])) (fun v H2 => v = .non ∧ Q (.ref x) H2) (WE W σ) := by
  obtain ⟨st, φ, I, R, p⟩ := h
  refine ⟨st, φ, I, R, (Po.bind p).imp fun ds H1 st1 φ1 I1 S1 R1 q vs hv => ?_⟩
  by_cases hn : ds.length = m
  · rw [if_pos hn] at q
    refine ⟨by rw [← hv.len]; exact hn, fun x dx hx hdx hne => ?_⟩
    obtain ⟨RA, SA⟩ := R1.laidO hdx (.own x)
    have hx2 : (upd H1 dx (.own x)) x = none := by rw [upd_ne (Ne.symm hne)]; exact hx
    obtain ⟨RB, SB⟩ := RA.laidO hx2 (.ins (He.ga X.K C) dx [])
    obtain ⟨h0, hφ, hI, ho⟩ := R1.fresh hx
    have own : Rr X.K E σ (upd (upd H1 dx (.own x)) x (.ins (He.ga X.K C) dx [])) st1 φ1 I1 (.ow (.ins C [])) (.ref x) := ⟨x, rfl, ⟨_, upd_same, hI, .ins rfl .nil⟩, hφ, h0, ho⟩
    obtain ⟨a, ea, RC, SC⟩ := RB.store (SA.trans SB) own (fun b c e1 e2 => by cases e2; exact hx)
    cases ea
    have hat : (φ1 ++ [x])[st1.store.length]? = some x := by rw [← R1.len]; exact List.getElem?_concat_length ..
    refine ⟨.obj st1.store.length :: ds, st1.store ++ [.ins C []], φ1 ++ [x], I1, RC.ask, .cons (.obj hat) (hv.mono SC.pf SC.ii), ?_⟩
    cases e : F (.obj st1.store.length :: ds) (st1.store ++ [.ins C []]) with
    | stuck => rw [e] at q; exact q.elim
    | exc c store' =>
      rw [e] at q
      intro d H' φ' I' B hx
      obtain ⟨R2, S2⟩ := RC.after B
      exact q d H' φ' I' (SC.trans S2) R2 (Rx.after RC hx)
    | ret r store' =>
      rw [e] at q
      cases r with
      | lo i => exact q.elim
      | ow c => exact q.elim
      | sh d =>
        cases d <;> try exact q.elim
        intro v H' φ' I' B hr
        have hr : Rv X.K φ' I' .non v := hr
        cases hr
        obtain ⟨R2, S2⟩ := RC.after B
        exact ⟨rfl, q H' φ' I' (SC.trans S2) R2 _ (Rv.obj (pre_get S2.pf hat)) (Nw.sh)⟩
  · rw [if_neg hn] at q
    exact q.elim
theorem sr_make (mk : Mk X.K (He.ga X.K C) f) (hF : FnC X.prog X.w X.K X.mg X.base k f (m + 1) [] F) (hr : Room (k + 1) X.A) (hgd : X.A.guards = some []) (tk : Takes X W) (hg : Gl X x) (hm : X.mg x = some (.ref (He.ga X.K C))) (ha : SA X E W (e :: es) ma)
    (hdb : (x == ("__debug__" : Str)) = false := by decide) (he : starEach (e :: es) X.env = (false, eval e X.env) :: starEach es X.env := by rfl) (hpl : (backTo pos (starEach es X.env)).any (·.1) = false := by rfl) :
    SR X E W (.Call (.Name x p) (e :: es) [] pos) (mMake C m F ma) := ⟨fun pins s σ H Q I h => by
  refine wpAny_Call_Name_kw (ld_glob I hg hm ?_ hdb)
  refine PySem.W.callWith_K (h₀ := X.base) I.ok.mod.kin mk.kp (thn (ha.run pos pins s σ H _ I (rd_make h)) fun us s1 ⟨vs, H1, I1, r, hl, q⟩ => ⟨I1.kIn, ?_⟩) he hpl
  exact run_makeC (us := us) mk hF hr hgd tk I1 r (by rw [← r.length]; exact hl) q⟩
end
/-! ### an instance that no longer changes -/
/-- the last-made thing, from now on as it is -/
def mFz (m : M RV) : M RV := m.bind fun r st => match r with
  | .sh (.obj n) => (match st.store[n]? with
    | some (.ins C fs) => .ok (.sh (.rcd C fs)) { st with store := st.store.set n .dead }
    | _ => .stuck)
  | _ => .stuck
section
variable {K : PySem.W.Frag} {E : Ent} {σ : L2.St} {H : Hp} {st : State} {φ : List Addr} {I : Hp}
theorem Rp.freeze (R : Rp K E σ H st φ I) {n : Nat} {a : Addr} {C : Str} {fs : List (Str × D)} (hs : st.store[n]? = some (.ins C fs)) (hφ : φ[n]? = some a) :
    ∃ I', Rp K E σ H { st with store := st.store.set n .dead } φ I' ∧ Stp σ H st φ I H { st with store := st.store.set n .dead } φ I' ∧ Rv K φ I' (.rcd C fs) (.ref a) := by
  rcases R.cells n _ a hs hφ with z | ⟨o, g1, g2, g3⟩
  · cases z
  · cases g3 with
    | ins g4 g5 =>
      rename_i dx us
      have am : a ∈ φ := List.mem_of_getElem? hφ
      have eI : Ex I (upd I a (.ins (He.ga K C) dx us)) := ex_upd g2
      have back : ∀ b, b ≠ a → (upd I a (.ins (He.ga K C) dx us)) b = I b := fun b hb => upd_ne hb
      have inf : ∀ b, (upd I a (.ins (He.ga K C) dx us)) b ≠ none → I b = none → b = a := fun b h hn => by
        by_cases hb : b = a
        · exact hb
        · rw [back b hb] at h; exact absurd hn h
      refine ⟨upd I a (.ins (He.ga K C) dx us), ⟨fun b u e => ?_, R.keep, R.there, fun b h hn => ?_, R.iold.trans eI, R.pre, R.fl.ii eI, R.pnew, R.nd, ?_, fun j c b h1 h2 => ?_, R.pin, R.elen, fun j d h => ?_, fun j c h => ?_, R.one⟩,
        ⟨List.prefix_rfl, fun _ h n => absurd h n, eI, fun _ _ z _ _ => z, fun _ z => z, fun b h hn => ?_, fun _ _ h => h⟩, ?_⟩
      · by_cases hb : b = a
        · rw [hb, upd_same] at e; cases e; rw [hb]; exact g1
        · rw [back b hb] at e; exact R.ext b u e
      · by_cases hb : b = a
        · rw [hb]
          exact (R.pnew a am).elim .inr .inl
        · rw [back b hb] at h; exact R.inew b h hn
      · show φ.length = (st.store.set n .dead).length
        rw [List.length_set]; exact R.len
      · by_cases hj : j = n
        · have hlt : n < st.store.length := (List.getElem?_eq_some_iff.mp hs).1
          rw [hj, show (st.store.set n Cell.dead)[n]? = some .dead from List.getElem?_set_self hlt] at h1
          cases h1
          exact .inl rfl
        · rw [show (st.store.set n Cell.dead)[j]? = st.store[j]? from List.getElem?_set_ne (Ne.symm hj)] at h1
          have hb : b ≠ a := fun z => by
            subst z
            exact hj ((List.getElem_inj R.nd).mp ((List.getElem?_eq_some_iff.mp h2).2.trans (List.getElem?_eq_some_iff.mp hφ).2.symm))
          rcases R.cells j c b h1 h2 with z | z
          · exact .inl z
          · exact .inr (z.mono List.prefix_rfl eI (by rw [back b hb]; exact z.choose_spec.2.1) fun _ q => q)
      · obtain ⟨v, q1, q2⟩ := R.sh j d h
        exact ⟨v, q1, q2.mono List.prefix_rfl eI⟩
      · obtain ⟨b, q1, q2, q3, q4⟩ := R.ow j c h
        have hb : b ≠ a := fun z => q3 (z ▸ am)
        exact ⟨b, q1, q2.mono List.prefix_rfl eI (by rw [back b hb]; exact q2.choose_spec.2.1) fun _ q => q, q3, q4⟩
      · have := inf b h hn
        subst this
        exact .inr (.inl am)
      · exact .rcd upd_same g4 (g5.mono List.prefix_rfl eI)
end
section
variable {X : Cx} {E : Ent} {W : WX} {e : Expr} {m : M RV}
theorem sr_fz (h : SR X E W e m) : SR X E W e (mFz m) := PEi h fun σ H Q ⟨st, φ, I, R, p⟩ => by
  refine ⟨st, φ, I, R, (Po.bind p).imp fun r H1 st1 φ1 I1 S1 R1 p1 v hr hn => ?_⟩
  cases r with
  | ow c => exact p1.elim
  | lo i => exact p1.elim
  | sh d =>
    cases d <;> try exact p1.elim
    rename_i n
    simp only at p1
    cases q : st1.store[n]? with
    | none => rw [q] at p1; exact p1.elim
    | some c =>
      rw [q] at p1
      cases c <;> try exact p1.elim
      rename_i C fs
      have hr' : Rv X.K φ1 I1 (.obj n) v := hr
      cases hr' with
      | obj ha =>
        obtain ⟨I2, R2, S2, rv⟩ := R1.freeze q ha
        exact p1 H1 φ1 I2 S2 R2 _ rv Nw.sh
end
end PM
set_option Elab.async false
set_option linter.all false
set_option maxRecDepth 100000
set_option maxHeartbeats 1200000
namespace PM
open PySem PySem.Spec L2
section
variable {X : Cx} {E : Ent} {W : WX} {pos p : Pos} {k : Nat}
theorem inst_at {pins : List (Addr × Obj)} {σ : L2.St} {H : Hp} {s : Shared} {a C dx : Addr} {us : List (Str × V)} (I : Inv X pins σ H s) (e : H a = some (.ins C dx us)) : ∃ ox od, PySem.W.InstAt s.heap a ox C (some od) := by
  obtain ⟨_, O, _⟩ := ins_get I.hok e
  obtain ⟨od, J, _⟩ := O.look
  exact ⟨_, od, J⟩
theorem sp_of {K : PySem.W.Frag} {σ : L2.St} {H : Hp} {st : State} {φ : List Addr} {I : Hp} {F : Fn} {ds : List D} {vs : List V} {Q : VK} (R : Rp K E σ H st φ I) (hv : Rvs K φ I ds vs)
    (q : Po K E W σ (ofF st (F ds st.store)) H st φ I fun r H' st' φ' I' => ∀ v, Rr K E σ H' st' φ' I' r v → Nw σ H st r v → Q v H') : spOf K F vs H Q (WE W σ) := by
  refine ⟨ds, st.store, φ, I, R.ask, hv, ?_⟩
  cases e : F ds st.store with
  | stuck => rw [e] at q; exact q.elim
  | exc c store' =>
    rw [e] at q
    intro d H' φ' I' B hx
    obtain ⟨R2, S2⟩ := R.after B
    exact q d H' φ' I' S2 R2 (Rx.after R hx)
  | ret r store' =>
    rw [e] at q
    intro v H' φ' I' B hr
    obtain ⟨R2, S2⟩ := R.after B
    cases r with
    | lo i => exact q.elim
    | sh d =>
      obtain ⟨hr', hn'⟩ := Rr.after R hr (fun i z => by cases z)
      exact q H' φ' I' S2 R2 v hr' hn'
    | ow c =>
      obtain ⟨hr', hn'⟩ := Rr.after R hr (fun i z => by cases z)
      exact q H' φ' I' S2 R2 v hr' hn'
/-! ### operators of instances -/
/-- both instances of one class -/
def same2 (st : State) : RV → RV → Option (Str × D × D)
  | .sh x, .sh y => (thing st (.sh x)).bind fun p => (thing st (.sh y)).bind fun q => if p.1 = q.1 then some (p.1, x, y) else none
  | _, _ => none
def ownC (tab : List (Str × Fn)) (C : Str) (ds : List D) : M RV := fun st => match tab.lookup C with
  | some F => ofF st (F ds st.store)
  | none => .stuck
/-- a op b: instances by their class's def, else by g -/
def mBin (tab : List (Str × Fn)) (g : D → D → Option RV) (a b : M RV) : M RV := a.bor.bind fun r => b.bor.bind fun s st => match same2 st r s with
  | some (C, x, y) => ownC tab C [x, y] st
  | none => at2 g r s st
variable {a b : Expr} {ma mb : M RV} {g : D → D → Option RV} {tab : List (Str × Fn)}
/-! ### comparisons of instances -/
def okB (r : RV) : M Bool := fun st => match r with
  | .sh (.bl b) => .ok b st
  | _ => .stuck
def mCmp2 (tab : List (Str × Fn)) (g : D → D → Option Bool) (a b : M RV) : M Bool := a.bor.bind fun r => b.bor.bind fun s st => match same2 st r s with
  | some (C, x, y) => (ownC tab C [x, y]).bind okB st
  | none => at2 g r s st
variable {gb : D → D → Option Bool}
/-! ### x in o -/
/-- x in o, o an instance; else by g -/
def mIn2 (tab : List (Str × Fn)) (g : D → D → Option Bool) (a b : M RV) : M Bool := a.bor.bind fun r => b.bor.bind fun s st => match thing st s with
  | some (C, _) => (match r, s with
    | .sh x, .sh y => (ownC tab C [y, x]).bind okB st
    | _, _ => .stuck)
  | none => at2 g r s st
/-! ### an instance as a test -/
/-- the truth of a bool; of an instance by its class's def -/
def mTru (tab : List (Str × Fn)) (a : M RV) : M Bool := a.bor.bind fun r st => match thing st r with
  | some (C, _) => (match r with
    | .sh x => (ownC tab C [x]).bind okB st
    | _ => .stuck)
  | none => okB r st
end
end PM
set_option Elab.async false
set_option linter.all false
set_option maxRecDepth 100000
set_option maxHeartbeats 1200000
namespace PM
open PySem PySem.Spec L2
/-! ### o.m(args) -/
def callN (n : Nat) (F : Fn) (x : D) (args : M (List D)) : M RV := args.bind fun ds st => if ds.length = n then ofF st (F (x :: ds) st.store) else .stuck
def mMeth (tab : List (Str × Fn)) (m : Str) (n : Nat) (o : M RV) (args : M (List D)) : M RV := o.bor.bind fun r st => match r with
  | .sh x => (match thing st (.sh x) with
    | some (C, fs) => if (fs.lookup m).isNone then (match tab.lookup C with
      | some F => callN n F x args st
      | none => .stuck) else .stuck
    | none => .stuck)
  | _ => .stuck
/-! ### what a built-in calls -/
section
variable {X : Cx} {E : Ent} {W : WX} {pos p : Pos} {k : Nat} {f : Addr} {n : Nat} {F : Fn}
theorem in1_guards {A : Around} : A.in1.guards = A.guards := by
  first | rfl | simp [Around.in1]
end
/-! ### e.f, a property -/
/-- no error is let out -/
def noX {α : Type} (m : M α) : M α := fun st => match m st with
  | .exc _ _ => .stuck
  | .ok r st' => .ok r st'
  | .stuck => .stuck
theorem Po.noX {α : Type} {K : PySem.W.Frag} {E : Ent} {W : WX} {σ : L2.St} {H : Hp} {st : State} {φ : List Addr} {I : Hp} {m : M α} {q : α → Hp → State → List Addr → Hp → Prop} (h : Po K E W σ (PM.noX m st) H st φ I q) : Po K E WF σ (m st) H st φ I q := by
  unfold PM.noX at h
  cases e : m st with
  | stuck => rw [e] at h; exact h.elim
  | exc c st' => rw [e] at h; exact h.elim
  | ok r st' => rw [e] at h; exact h
theorem run_c1n {X : Cx} {k n : Nat} {f : Addr} {F : Fn} {pins : List (Addr × Obj)} {σ : L2.St} {H : Hp} {s : Shared} {Q : VK} {us : List Value} {vs : List V} (hF : FnC X.prog X.w X.K X.mg X.base k f n [] F) (hr : Room (k + 1) X.A) (hgd : X.A.guards = some [])
    (I : Inv X pins σ H s) (r : Vals vs us) (hm : us.length = n) (h : spOf X.K F vs H Q (WE WF σ)) : codeAny (model X.prog X.w) X.A.in1 (.call (.ref f) ⟨us, []⟩) (fun r s' => match r with | .ok (.ret u) => EP X pins σ Q u s' | .ok _ => False | .error e => False) s := by
  have c := hF X.A.in1 X.stack s H us vs Q (WE WF σ) hr.in1 (by rw [in1_guards]; exact hgd) I.env0.in1 r (by rw [hm]; rfl) h
  have e1 : us.take n = us := by rw [← hm]; exact List.take_length
  rw [e1] at c
  refine codeAny_mono c fun r s' hq => ?_
  cases r with
  | error e => exact False.elim (passAt (X := X.nox) takesF σ pins H s e s' (I.wish _) hq)
  | ok fl =>
    cases fl with
    | ret u => exact I.after hq
    | next => exact hq.elim
    | brk => exact hq.elim
    | cont => exact hq.elim
def mProp (tab : List (Str × Fn)) (o : M RV) : M RV := o.bor.bind fun r st => match r with
  | .sh x => (match thing st (.sh x) with
    | some (C, _) => noX (ownC tab C [x]) st
    | none => .stuck)
  | _ => .stuck
section
variable {X : Cx} {E : Ent} {W : WX} {pos p : Pos} {k : Nat} {tab : List (Str × Fn)} {f : Str} {e : Expr} {mo : M RV}
def OwnProp (X : Cx) (k : Nat) (f : Str) (tab : List (Str × Fn)) : Prop := ∀ C F, tab.lookup C = some F → Cls X.K (He.ga X.K C) ∧ ∃ p g, PropOf X.K (He.ga X.K C) f p g ∧ FnC X.prog X.w X.K X.mg X.base k g 1 [] F
theorem rd_prop {σ : L2.St} {H : Hp} {Q : VK} (h : rdR X.K E W (mProp tab mo) σ H Q) :
    rdR X.K E W mo.bor σ H fun v H1 => ∃ a C dx us F, v = .ref a ∧ H1 a = some (.ins (He.ga X.K C) dx us) ∧ tab.lookup C = some F ∧ spOf X.K F [.ref a] H1 Q (WE WF σ) := by
  obtain ⟨st, φ, I, R, p⟩ := h
  refine ⟨st, φ, I, R, (Po.bind p).imp fun r H1 st1 φ1 I1 S1 R1 p1 v hv _ => ?_⟩
  cases r with
  | ow c => exact p1.elim
  | lo i => exact p1.elim
  | sh x =>
    simp only at p1
    cases e : thing st1 (.sh x) with
    | none => rw [e] at p1; exact p1.elim
    | some t =>
      obtain ⟨C, fs⟩ := t
      rw [e] at p1
      have p2 := Po.noX p1
      simp only [ownC] at p2
      obtain ⟨a, dx, us, rfl, h1, h2, h3⟩ := hv.thing Stp.refl R1 e
      cases ef : tab.lookup C with
      | none => rw [ef] at p2; exact p2.elim
      | some F =>
        rw [ef] at p2
        exact ⟨a, C, dx, us, F, rfl, h1, ef, sp_of R1 (.cons hv .nil) (p2.imp fun r H3 st3 φ3 I3 S3 R3 q v hr hn => q v hr (hn.back S1))⟩
theorem sr_prop (hw : OwnProp X k f tab) (hr : Room (k + 1) X.A) (hgd : X.A.guards = some []) (ho : SR X E W e mo) (hab : attributeBase e f X.env (eval e X.env) = eval e X.env := by rfl) : SR X E W (.Attribute e f pos) (mProp tab mo) := ⟨fun pins s σ H Q I h => by
  refine attr_of hab (thn ((sr_bor ho).run pins s σ H _ I (rd_prop h)) fun u s1 ⟨x, H1, I1, rx, a, C, dx, us, F, ex, ea, ef, q⟩ => ?_)
  subst ex
  obtain rfl : u = Value.ref a := rx
  obtain ⟨c, p, g, hp, hF⟩ := hw C F ef
  obtain ⟨mA, O, _, _, _, _⟩ := ins_get I1.hok ea
  obtain ⟨od, J, _⟩ := O.look
  obtain ⟨rest, hrec⟩ := hp.rec_
  have I2 := I1.tok (s1.toks + 1)
  have hc : (PySem.W.clsIn X.K (He.ga X.K C)).isSome = true := by
    obtain ⟨cd, hc, _⟩ := PySem.W.any_some c.hd
    rw [hc]
    rfl
  refine PySem.W.get_bind I1.kIn J (PySem.W.plainGet_of (c.get f)).1 (PySem.W.findObj_data hc hp.at_ hp.get hp.tak) (PySem.W.plainGet_of (c.get f)).2 (wpAny_call (PySem.W.prop_get (s := { s1 with toks := s1.toks + 1 }) I1.kIn hrec ?_))
  refine codeAny_mono (run_c1n (us := [.ref a]) (vs := [.ref a]) hF hr hgd I2 (.cons rfl .nil) rfl q) fun r s' hq => ?_
  cases r with
  | error er => exact False.elim hq
  | ok fl =>
    cases fl with
    | ret u =>
      obtain ⟨v, H', I3, rv, q3⟩ := hq
      show wpAny _ _ (handedOut u) _ _ _
      rw [PySem.W.handedOut_of (handed_of rv)]
      exact wpAny_pure ⟨v, H', I3, rv, q3⟩
    | next => exact False.elim hq
    | brk => exact False.elim hq
    | cont => exact False.elim hq⟩
end
/-! ### a op1 b op2 c -/
def mCh (g g' : D → D → Option Bool) (a b c : M RV) : M Bool := a.bor.bind fun r => b.bor.bind fun s => (at2 g r s).bind fun t => if t then c.bor.bind fun u => at2 g' s u else M.pure false
section
variable {X : Cx} {E : Ent} {W : WX} {pos : Pos} {a b c : Expr} {ma mb mc : M RV} {g g' : D → D → Option Bool}
theorem rd_ch {σ : L2.St} {H : Hp} {Q : VK} {q : Bool → Hp → State → List Addr → Hp → Prop} {st : State} {φ : List Addr} {I : Hp} (R : Rp X.K E σ H st φ I) (p : Po X.K E W σ (mCh g g' ma mb mc st) H st φ I q)
    (hk : ∀ r H' st' φ' I', Rp X.K E σ H' st' φ' I' → q r H' st' φ' I' → Q (.bl r) H') : tChain (rdB X.K E g) (rdB X.K E g') (rdR X.K E W ma.bor) (rdR X.K E W mb.bor) (rdR X.K E W mc.bor) σ H Q := by
  refine ⟨st, φ, I, R, (Po.bind p).imp fun x H1 st1 φ1 I1 S1 R1 p1 v hv _ => ?_⟩
  refine ⟨st1, φ1, I1, R1, (Po.bind p1).imp fun y H2 st2 φ2 I2 S2 R2 p2 w hw _ => ?_⟩
  obtain ⟨x', y', r, ex, ey, e, p3⟩ := Po.at2 (Po.bind p2)
  refine ⟨σ, st2, φ2, I2, x', y', r, R2, hv.seen S2 R2 ex, hw.seen Stp.refl R2 ey, e, r, rfl, ?_⟩
  have p4 := p3 H2 φ2 I2 Stp.refl R2
  cases r with
  | false => exact hk false H2 st2 φ2 I2 R2 (p4.pure R2)
  | true =>
    refine ⟨st2, φ2, I2, R2, (Po.bind p4).imp fun z H3 st3 φ3 I3 S3 R3 p5 u hu _ => ?_⟩
    obtain ⟨y2, z', r2, ey2, ez, e2, p6⟩ := Po.at2 p5
    exact ⟨σ, st3, φ3, I3, y2, z', r2, R3, hw.seen S3 R3 ey2, hu.seen Stp.refl R3 ez, e2, hk r2 H3 st3 φ3 I3 R3 (p6 H3 φ3 I3 Stp.refl R3)⟩
theorem sr_ch {op op' : CmpOp} (ho : OpB X E (compareOp op) g) (ho' : OpB X E (compareOp op') g') (ha : SR X E W a ma) (hb : SR X E W b mb) (hc : SR X E W c mc) (hm : lastMarks [op, op'] [b, c] = false) : SR X E W (.Compare a [op, op'] [b, c] pos) (mBl (mCh g g' ma mb mc)) :=
  PEi (pe_chain ho ho' (sr_bor ha) (sr_bor hb) (sr_bor hc) hm) fun σ H Q ⟨st, φ, I, R, p⟩ => rd_ch R (Po.bind p) fun r H' st' φ' I' R' h => h.pure R' _ (.bl r) Nw.sh
theorem st_ch {op op' : CmpOp} (ho : OpB X E (compareOp op) g) (ho' : OpB X E (compareOp op') g') (ha : SR X E W a ma) (hb : SR X E W b mb) (hc : SR X E W c mc) (hm : lastMarks [op, op'] [b, c] = false) : ST X E W (.Compare a [op, op'] [b, c] pos) (mCh g g' ma mb mc) :=
  PTi (pt_chain ho ho' (sr_bor ha) (sr_bor hb) (sr_bor hc) hm) fun σ H Q ⟨st, φ, I, R, p⟩ => rd_ch R p fun r H' st' φ' I' R' h => ⟨r, rfl, h⟩
end
end PM
set_option Elab.async false
set_option linter.all false
set_option maxRecDepth 100000
set_option maxHeartbeats 1200000
namespace PM
open PySem PySem.Spec L2
/-! ### a class as a value -/
section
variable {X : Cx} {E : Ent} {W : WX} {pos p apos : Pos} {k m : Nat} {C : Str} {f g r0 : Addr} {mc : Value} {F : Fn} {x nm : Str} {o e : Expr} {es : List Expr} {ma : M (List D)}
theorem sr_cls (hg : Gl X x) (hm : X.mg x = some (.ref (He.ga X.K C))) (hd : (x == ("__debug__" : Str)) = false := by decide) : SR X E W (.Name x pos) (mL (.cls C)) := sr_lit (pe_glob (v := .ref (He.ga X.K C)) hg hm rfl hd) fun _ _ => .cls _
/-- C.m(args), m a classmethod -/
def mCm (C : Str) (n : Nat) (F : Fn) (args : M (List D)) : M RV := args.bind fun ds st => if ds.length = n then ofF st (F (.cls C :: ds) st.store) else .stuck
theorem rd_cm {σ : L2.St} {H : Hp} {Q : VK} (h : rdR X.K E W (mCm C m F ma) σ H Q) : rdA X.K E W ma σ H fun vs H1 => vs.length = m ∧ spOf X.K F (.ref (He.ga X.K C) :: vs) H1 Q (WE W σ) := by
  obtain ⟨st, φ, I, R, p⟩ := h
  refine ⟨st, φ, I, R, (Po.bind p).imp fun ds H1 st1 φ1 I1 S1 R1 p2 vs hvs => ?_⟩
  by_cases hd : ds.length = m
  · rw [if_pos hd] at p2
    exact ⟨by rw [← hvs.len]; exact hd, sp_of R1 (.cons (.cls _) hvs) (p2.imp fun r H3 st3 φ3 I3 S3 R3 q v hr hn => q v hr (hn.back S1))⟩
  · rw [if_neg hd] at p2
    exact p2.elim
theorem run_cc {pins : List (Addr × Obj)} {σ : L2.St} {H : Hp} {s : Shared} {Q : VK} {us : List Value} {vs : List V} (hF : FnC X.prog X.w X.K X.mg X.base k f m [] F) (hr : Room k X.A) (hgd : X.A.guards = some []) (tk : Takes X W)
    (I : Inv X pins σ H s) (r : Vals vs us) (hm : us.length = m) (h : spOf X.K F vs H Q (WE W σ)) : codeAny (model X.prog X.w) X.A (.call (.ref f) ⟨us, []⟩) (fun r s' => match r with | .ok (.ret u) => EP X pins σ Q u s' | .ok _ => False | .error e => X.xe e s') s := by
  have c := hF X.A X.stack s H us vs Q (WE W σ) hr hgd I.env0 r (by rw [hm]; rfl) h
  have e1 : us.take m = us := by rw [← hm]; exact List.take_length
  rw [e1] at c
  refine codeAny_mono c fun r s' hq => ?_
  cases r with
  | error e => exact passAt tk σ pins H s e s' I hq
  | ok fl =>
    cases fl with
    | ret u => exact I.after hq
    | next => exact hq.elim
    | brk => exact hq.elim
    | cont => exact hq.elim
theorem run_cmC {C : Addr} {pins : List (Addr × Obj)} {σ : L2.St} {H : Hp} {s : Shared} {q : Addr} {Q : VK} {us : List Value} {vs : List V} (hF : FnC X.prog X.w X.K X.mg X.base k g (m + 1) [] F) (hr : Room k X.A) (hgd : X.A.guards = some []) (tk : Takes X W)
    (I : Inv X ((q, PySem.W.methodObj (.ref g) (.ref C)) :: pins) σ H s) (r : Vals vs us) (hm : us.length = m) (h : spOf X.K F (.ref C :: vs) H Q (WE W σ)) : wpAny (model X.prog X.w) X.A (call (.ref q) us) (EP X pins σ Q) X.xe s := by
  have z : wpAny (model X.prog X.w) X.A (call (.ref q) us) (EP X ((q, PySem.W.methodObj (.ref g) (.ref C)) :: pins) σ Q) X.xe s := by
    refine wpAny_call (PySem.W.method_call (ClX.pin_at I) ?_)
    exact run_cc (us := .ref C :: us) (vs := .ref C :: vs) hF hr hgd tk I (.cons rfl r) (by rw [List.length_cons, hm]) h
  exact thn z fun _ _ y => ClX.unpinE y
theorem sr_cm {pl : Sem Bool} (rd : ClX.CRead X.K (He.ga X.K C) mc) (c : ClX.CMet X.K (He.ga X.K C) mc nm r0 g) (hF : FnC X.prog X.w X.K X.mg X.base k g (m + 1) [] F) (hr : Room k X.A) (hgd : X.A.guards = some []) (tk : Takes X W) (hg : Gl X x) (hx : X.mg x = some (.ref (He.ga X.K C))) (ha : SA X E W (e :: es) ma)
    (hd : (x == ("__debug__" : Str)) = false := by decide) (hst : starEach (e :: es) X.env = (false, eval e X.env) :: starEach es X.env := by rfl) (hpl : (backTo pos (starEach es X.env)).any (·.1) = false := by rfl)
    (ht : eval (.Call (.Attribute (.Name x p) nm apos) (e :: es) [] pos) X.env = (do
      let ov ← eval (.Name x p) X.env
      standAt apos.atName
      let (f, first) ← holding [ov] (getMethod ov nm pl)
      callWith pos f first (backTo pos (starEach (e :: es) X.env)) (backToKw pos (keywordEach [] X.env))) := by rfl) :
    SR X E W (.Call (.Attribute (.Name x p) nm apos) (e :: es) [] pos) (mCm C m F ma) := ⟨fun pins s σ H Q I h => by
  refine PySem.W.methodCall_KW (pl := pl) (ld_glob I hg hx ?_ hd) ht
  refine ClX.getmethcm_ok I rd c fun s2 I2 => ?_
  refine ClX.callwith_cm I2 (ClX.base_none I (Nat.le_refl _)) c.fi (thn (ha.run pos _ s2 σ H _ I2 (rd_cm h)) fun us s3 ⟨vs, H2, I3, rv, hl, q2⟩ => ⟨⟨ClX.pin_at I3, I3.kIn⟩, ?_⟩) hst hpl
  exact run_cmC hF hr hgd tk I3 rv (by rw [← rv.length]; exact hl) q2⟩
/-- cls(args), the slot i holds C -/
def mMakeL (i : Nat) (C : Str) (n : Nat) (F : Fn) (args : M (List D)) : M RV := fun st => match st.env[i]? with
  | some (.sh (.cls B)) => if B = C then mMake C n F args st else .stuck
  | _ => .stuck
theorem rd_makeL {i : Nat} {σ : L2.St} {H : Hp} {Q : VK} (h : rdR X.K E W (mMakeL i C m F ma) σ H Q) : σ[i]? = some (some (.ref (He.ga X.K C))) ∧ rdR X.K E W (mMake C m F ma) σ H Q := by
  obtain ⟨st, φ, I, R, p⟩ := h
  unfold mMakeL at p
  cases e : st.env[i]? with
  | none => rw [e] at p; exact p.elim
  | some sl =>
    rw [e] at p
    cases sl with
    | un => exact p.elim
    | ow c => exact p.elim
    | sh d =>
      cases d <;> try exact p.elim
      rename_i B
      simp only at p
      by_cases hB : B = C
      · rw [if_pos hB] at p
        subst hB
        obtain ⟨v, h1, h2⟩ := R.sh i _ e
        cases h2
        exact ⟨h1, st, φ, I, R, p⟩
      · rw [if_neg hB] at p
        exact p.elim
theorem sr_makeL (i : Nat) (mk : Mk X.K (He.ga X.K C) f) (hF : FnC X.prog X.w X.K X.mg X.base k f (m + 1) [] F) (hr : Room (k + 1) X.A) (hgd : X.A.guards = some []) (tk : Takes X W) (ha : SA X E W (e :: es) ma)
    (hN : X.N[i]? = some x := by rfl) (hv : Vis X.env.scope x := by first | exact Or.inl rfl | exact Or.inr (Or.inl rfl) | exact Or.inr (Or.inr rfl)) (hdb : (x == ("__debug__" : Str)) = false := by decide) (hcd : (x == ("__classdict__" : Str)) = false := by decide)
    (he : starEach (e :: es) X.env = (false, eval e X.env) :: starEach es X.env := by rfl) (hpl : (backTo pos (starEach es X.env)).any (·.1) = false := by rfl) :
    SR X E W (.Call (.Name x p) (e :: es) [] pos) (mMakeL i C m F ma) := ⟨fun pins s σ H Q I h => by
  obtain ⟨hs, h⟩ := rd_makeL h
  refine wpAny_Call_Name_kw (thn ((pe_var (pos := p) hN hv hdb hcd).run pins s σ H (fun v H1 => v = .ref (He.ga X.K C) ∧ H1 = H) I ⟨.ref (He.ga X.K C), hs, rfl, rfl⟩) fun u s1 ⟨v, H1, I1, r1, q1⟩ => ?_)
  obtain ⟨rfl, rfl⟩ := q1
  cases r1
  refine PySem.W.callWith_K (h₀ := X.base) I.ok.mod.kin mk.kp (thn (ha.run pos pins s1 σ _ _ I1 (rd_make h)) fun us s2 ⟨vs, H2, I2, r, hl, q⟩ => ⟨I2.kIn, ?_⟩) he hpl
  exact run_makeC (us := us) mk hF hr hgd tk I2 r (by rw [← r.length]; exact hl) q⟩
end
/-! ### isinstance, with instances and classes of the text -/
/-- what is asked for: a class of the text, or a built-in one -/
inductive Tgt where
  | own (B : Str) | ty (T : String)
deriving DecidableEq
def Tgt.val (K : PySem.W.Frag) : Tgt → Value
  | .own B => .ref (He.ga K B)
  | .ty T => .type T
abbrev IsiT := List ((Str × Tgt) × Bool)
/-- an own class whose instances are asked plainly -/
def clsOkB (K : PySem.W.Frag) (C : Addr) : Bool := decide (PySem.W.findIn K (.ref C) "__class__" = some (some (.builtin "object.__class__"))) && (decide (PySem.W.specialIn K (.builtin "object.__class__") "__get__" = some (some (.builtin "getset_descriptor.__get__"))) &&
  (decide (PySem.W.takesIn K (.builtin "object.__class__") = some true) && decide (PySem.W.mroIn K C (.type "object") = some true)))
def isiCB (C : Str) (K : PySem.W.Frag) : Bool := clsOkB K (He.ga K C)
def isiRB (C : Str) (t : Tgt) (b : Bool) (K : PySem.W.Frag) : Bool := decide (PySem.W.kitOne K (.ref (He.ga K C)) (t.val K) = some b)
def isiDB (B : Str) (K : PySem.W.Frag) : Bool := ["NoneType", "bool", "int", "str", "tuple", "list", "dict"].all (fun T => decide (PySem.W.kitOne K (.type T) (.ref (He.ga K B)) = some false))
def tgtOf : RV → Option Tgt
  | .sh (.cls B) => some (.own B)
  | .sh (.val (.ty T)) => some (.ty T)
  | _ => none
def opIsi2 (bs : List Str) (x y : D) : Option RV := match y with
  | .cls B => if bs.contains B then (opKind x).map fun _ => .sh (.bl false) else none
  | _ => opIsi x y
/-- isinstance(a, b): own instances by the table tab; data are no instances of bs -/
def mIsi (tab : IsiT) (bs : List Str) (a b : M RV) : M RV := a.bor.bind fun r => b.bor.bind fun s st => match thing st r with
  | some (C, _) => (match (tgtOf s).bind fun t => tab.lookup (C, t) with
    | some c => .ok (.sh (.bl c)) st
    | none => .stuck)
  | none => at2 (opIsi2 bs) r s st
theorem opKind_in {x : D} {T : String} (h : opKind x = some T) : T ∈ ["NoneType", "bool", "int", "str", "tuple", "list", "dict"] := by
  cases x <;> simp only [opKind, Option.some.injEq, reduceCtorEq] at h <;> subst h <;> decide
/-- the table's rows are true -/
def IsiOk (K : PySem.W.Frag) (tab : IsiT) : Prop := ∀ C t b, tab.lookup (C, t) = some b → Cls K (He.ga K C) ∧ isiCB C K = true ∧ isiRB C t b K = true
def IsiDOk (K : PySem.W.Frag) (bs : List Str) : Prop := ∀ B ∈ bs, isiDB B K = true
section
variable {X : Cx} {E : Ent} {W : WX} {pos p : Pos} {x : Str} {a b : Expr} {ma mb : M RV} {tab : IsiT} {bs : List Str}
theorem cl_isi2 (hb : IsiDOk X.K bs) : CallR X (.builtin "isinstance") (rdC2 X.K E (opIsi2 bs)) := call_cases fun vs H Q ⟨v, w, e0, σ, st, φ, I, x, y, r, R, hx, hy, e, q⟩ => by
  by_cases hy2 : ∃ B, y = .cls B
  · obtain ⟨B, rfl⟩ := hy2
    simp only [opIsi2] at e
    by_cases hB : bs.contains B = true
    · rw [if_pos hB] at e
      obtain ⟨T, e1, rfl⟩ := Option.map_eq_some_iff.mp e
      have hw : w = .ref (He.ga X.K B) := by
        rcases hy with hy | ⟨a, c, _, e, _⟩
        · cases hy; rfl
        · cases c <;> cases e
      subst e0 hw
      have h2 := of_decide_eq_true (List.all_eq_true.mp (hb B (by simpa using hB)) T (opKind_in e1))
      exact ⟨_, call_isi, v, .ref (He.ga X.K B), _, _, false, rfl, .own _, opKind_ty R.ext hx e1, h2, q.sh R (.bl _)⟩
    · rw [if_neg hB] at e
      cases e
  · have e2 : opIsi x y = some r := by
      unfold opIsi2 at e
      split at e
      · exact absurd ⟨_, rfl⟩ hy2
      · exact e
    exact ⟨_, cl_isi, v, w, e0, σ, st, φ, I, x, y, r, R, hx, hy, e2, q⟩
theorem tgt_cls {K : PySem.W.Frag} {E : Ent} {σ : L2.St} {H : Hp} {st : State} {φ : List Addr} {I : Hp} {s : RV} {w : V} {t : Tgt} (h : Rr K E σ H st φ I s w) (e : tgtOf s = some t) : ClsV w (t.val K) := by
  cases s with
  | ow c => cases e
  | lo i => cases e
  | sh d =>
    cases d <;> try (cases e; done)
    · cases e
      cases (show Rv K φ I (.cls _) w from h)
      exact .own _
    · rename_i v2
      cases v2 <;> try (cases e; done)
      cases e
      cases (show Rv K φ I (.val (.ty _)) w from h)
      exact .ty _
end
end PM
set_option Elab.async false
set_option linter.all false
set_option maxRecDepth 100000
set_option maxHeartbeats 1200000
namespace PM
open PySem PySem.Spec L2
/-! ### a, b, .. = a list or a tuple -/
def gTL (n : Nat) (r : List D → State → Option State) : D → State → Option State := fun d st => match d with
  | .lst ds => if ds.length = n then r ds st else none
  | .lsF ds => if ds.length = n then r ds st else none
  | _ => none
/-! ### star in a display, in arguments -/
def mStar (a : M RV) (r : M (List D)) : M (List D) := a.frz.bind fun d => (M.ofO (asSeq d)).bind fun xs => r.bind fun ys => M.pure (xs ++ ys)
section
variable {X : Cx} {E : Ent} {W : WX} {pos p : Pos} {a : Expr} {es : List Expr} {ma : M RV} {mr : M (List D)}
theorem Rvs.app {K : PySem.W.Frag} {φ : List Addr} {I : Hp} : ∀ {xs ys : List D} {vs ws : List V}, Rvs K φ I xs vs → Rvs K φ I ys ws → Rvs K φ I (xs ++ ys) (vs ++ ws)
  | _, _, _, _, .nil, h => h
  | _, _, _, _, .cons h1 h2, h => .cons h1 (Rvs.app h2 h)
end
/-! ### a list times a number -/
def opMulL : D → D → Option RV
  | .lst ds, .int k => if decide (k.natAbs < 4611686018427387904) && decide (ds.length * k.toNat ≤ lim) then some (.ow (.ls (List.replicate k.toNat ds).flatten)) else none
  | _, _ => none
theorem Rvs.rep {K : PySem.W.Frag} {φ : List Addr} {I : Hp} {xs : List D} {vs : List V} (h : Rvs K φ I xs vs) : ∀ n : Nat, Rvs K φ I (List.replicate n xs).flatten (List.replicate n vs).flatten
  | 0 => .nil
  | n + 1 => by
    rw [List.replicate_succ, List.replicate_succ, List.flatten_cons, List.flatten_cons]
    exact Rvs.app h (Rvs.rep h n)
section
variable {X : Cx} {E : Ent}
theorem os_mulL : OpS X E (binaryOp .Mult) opMulL := op_cases fun v w H Q ⟨σ, st, φ, I, x, y, r, R, hx, hy, e, q⟩ => by
  cases x <;> try (simp [opMulL] at e; done)
  all_goals cases y <;> try (simp [opMulL] at e; done)
  rename_i ds k
  simp only [opMulL] at e
  by_cases h : (decide (k.natAbs < 4611686018427387904) && decide (ds.length * k.toNat ≤ lim)) = true
  · rw [if_pos h] at e
    cases e
    obtain ⟨h1, h2⟩ := Bool.and_eq_true_iff.mp h
    have h1 := of_decide_eq_true h1
    have h3 := of_decide_eq_true h2
    obtain ⟨a, vs, rfl, g1, g2⟩ := hx.lst R.ext
    cases hy.int
    exact ⟨_, op_rep, a, k, vs, rfl, rfl, g1, by omega, by omega, by rw [← g2.len]; exact Nat.le_trans h3 lim_le, q.lst R (g2.rep _)⟩
  · rw [if_neg h] at e
    cases e
end
/-! ### zip of two lists, two tuples -/
def pairs2 (xs ys : List D) : List D := (xs.zip ys).map fun p => .tup [p.1, p.2]
def zip2 (x y : D) : Option (List D) := match asL x, asL y with
  | some xs, some ys => some (pairs2 xs ys)
  | _, _ => match asT x, asT y with
    | some xs, some ys => some (pairs2 xs ys)
    | _, _ => none
def mZip (a b : M RV) : M (List D) := a.frz.bind fun x => b.frz.bind fun y => M.ofO (zip2 x y)
end PM
set_option Elab.async false
set_option linter.all false
set_option maxRecDepth 100000
set_option maxHeartbeats 1200000
namespace PM
open PySem PySem.Spec L2
/-! ### bool(x) -/
theorem Po.noXb {α β : Type} {K : PySem.W.Frag} {E : Ent} {W : WX} {σ : L2.St} {H : Hp} {st : State} {φ : List Addr} {I : Hp} {m : M α} {f : α → M β} {q : β → Hp → State → List Addr → Hp → Prop} (h : Po K E W σ ((PM.noX m).bind f st) H st φ I q) :
    Po K E WF σ (m st) H st φ I fun a H1 st1 φ1 I1 => Po K E W σ (f a st1) H1 st1 φ1 I1 q := by
  have h := Po.bind h
  unfold PM.noX at h
  cases e : m st with
  | stuck => rw [e] at h; exact h.elim
  | exc c st' => rw [e] at h; exact h.elim
  | ok r st' => rw [e] at h; exact h
def opBool : D → Option RV
  | .bl b => some (.sh (.bl b))
  | .int i => some (.sh (.bl (i != 0)))
  | _ => none
def mBoolC (tab : List (Str × Fn)) (a : M RV) : M RV := a.bor.bind fun r st => match r with
  | .sh x => (match thing st (.sh x) with
    | some (C, _) => ((noX (ownC tab C [x])).bind fun r => (okB r).bind fun b => M.pure (.sh (.bl b))) st
    | none => at1 opBool r st)
  | _ => at1 opBool r st
end PM
set_option Elab.async false
set_option linter.all false
set_option maxRecDepth 100000
set_option maxHeartbeats 1200000
namespace PM
open PySem PySem.Spec L2
/-! ### facts of the head, as tests of a part of the heap; defs by where they stand -/
abbrev Fb : Type := PySem.W.Frag → Bool
structure DefP where
  adr : PySem.W.Frag → Addr
  name : Str
  qual : Str
  params : Arguments
  body : List Stmt
  scope : Scope
  dvs : List V := []
  kws : List (Str × V) := []
def fnA (K : PySem.W.Frag) (a : Addr) : He.FnW := match K.lookup a with
  | some ⟨_, _, .func fd, _⟩ => some (fd.name, fd.qualname, fd.params, fd.body, fd.scope, fd.globals, fd.closure, fd.builtins)
  | _ => none
def DefP.val (d : DefP) : He.FnW := some (d.name, d.qual, d.params, .stmts d.body, d.scope, mainGlobals, [], builtinsNs)
def DefP.ok (K : PySem.W.Frag) (d : DefP) : Bool := PySem.W.keepIn K (.ref (d.adr K)) && (match K.lookup (d.adr K) with
  | some ⟨_, _, .func fd, _⟩ => PySem.W.codeIn K fd.code d.qual && (He.dflB K fd.defaults d.dvs && He.kwdB K fd.kwdefaults d.kws)
  | _ => false)
theorem DefP.funD {K : PySem.W.Frag} {d : DefP} (e : fnA K (d.adr K) = d.val) (c : d.ok K = true) : ∃ fd, FunD K d.name d.qual d.params d.body d.scope d.dvs d.kws (d.adr K) fd := by
  obtain ⟨kp, c2⟩ := He.ba c
  unfold fnA at e
  cases q : K.lookup (d.adr K) with
  | none =>
    rw [q] at c2
    cases c2
  | some o =>
    obtain ⟨oc, od, dt, osl⟩ := o
    rw [q] at c2 e
    cases dt with
    | func fd =>
      obtain ⟨n1, n2, n3, n4, n5, n6, n7, n8, n9, n10, n11, n12, n13, n14, n15⟩ := fd
      have e2 : (some (n1, n2, n3, n4, n5, n6, n7, n15) : He.FnW) = some (d.name, d.qual, d.params, .stmts d.body, d.scope, mainGlobals, [], builtinsNs) := e
      simp only [Option.some.injEq, Prod.mk.injEq] at e2
      obtain ⟨h1, h2, h3, h4, h5, h6, h7, h8⟩ := e2
      subst h1 h2 h3 h4 h5 h6 h7 h8
      have c3 : (PySem.W.codeIn K n13 d.qual && (He.dflB K n8 d.dvs && He.kwdB K n9 d.kws)) = true := c2
      obtain ⟨k1, k2⟩ := He.ba c3
      obtain ⟨k3, k4⟩ := He.ba k2
      exact ⟨_, ⟨oc, od, n8, n9, n10, n11, n12, n13, n14, osl, rfl, q, k1, He.dflB_ok k3, He.kwdB_ok k4⟩, kp⟩
    | _ => cases c2
def obsP (fa : List Fb) (fn : List DefP) (K : PySem.W.Frag) : He.AlD := ((fa.all fun f => f K) && fn.all fun d => d.ok K, fn.map fun d => fnA K (d.adr K))
def valP (fn : List DefP) : He.AlD := (true, fn.map DefP.val)
def SaysP (fa : List Fb) (fn : List DefP) (K : PySem.W.Frag) : Prop := obsP fa fn K = valP fn
section
variable {fa : List Fb} {fn : List DefP} {K : PySem.W.Frag}
theorem SaysP.fact (c : SaysP fa fn K) (i : Nat) {f : Fb} (h : fa[i]? = some f := by rfl) : f K = true := by
  have c1 := (He.ba (show ((fa.all fun f => f K) && fn.all fun d => d.ok K) = true from congrArg (fun z : He.AlD => z.1) c)).1
  exact List.all_eq_true.mp c1 f (List.mem_of_getElem? h)
theorem SaysP.def_ (c : SaysP fa fn K) (i : Nat) {d : DefP} (h : fn[i]? = some d := by rfl) : ∃ fd, FunD K d.name d.qual d.params d.body d.scope d.dvs d.kws (d.adr K) fd := by
  have c2 := (He.ba (show ((fa.all fun f => f K) && fn.all fun d => d.ok K) = true from congrArg (fun z : He.AlD => z.1) c)).2
  have e : fn.map (fun d => fnA K (d.adr K)) = fn.map DefP.val := congrArg (fun z : He.AlD => z.2) c
  have e2 : (fn.map fun d => fnA K (d.adr K))[i]? = (fn.map DefP.val)[i]? := by rw [e]
  rw [List.getElem?_map, List.getElem?_map, h] at e2
  exact DefP.funD (Option.some.inj e2) (List.all_eq_true.mp c2 d (List.mem_of_getElem? h))
end
/-! ### facts of classes -/
/-- a classmethod's, a property's record and its def -/
def recG (K : PySem.W.Frag) (T : String) (C m : Str) : Addr := match PySem.W.recIn K (He.ma K (He.ga K C) m) T with
  | some (.ref g :: _) => g
  | _ => 0
def mcl (K : PySem.W.Frag) (C : Str) : Value := (PySem.W.typeIn K (.ref (He.ga K C))).getD .none
def readB (C : Str) : Fb := fun K => PySem.W.readsIn K (He.ga K C) (mcl K C) && He.eqO (PySem.W.specialIn K (.ref (He.ga K C)) "__getattribute__") (some (some (.builtin "type.__getattribute__")))
def cmB (C m : Str) : Fb := fun K => (match PySem.W.findCls K (.ref (He.ga K C)) (mcl K C) m with
  | some (.get (.builtin b) (.ref p) .none (.ref c)) => decide (b = "classmethod.__get__") && (decide (p = He.ma K (He.ga K C) m) && decide (c = He.ga K C))
  | _ => false) && ((match PySem.W.recIn K (He.ma K (He.ga K C) m) "classmethod" with
  | some (.ref _ :: _) => true
  | _ => false) && PySem.W.fnIn K (recG K "classmethod" C m))
def propB (C f : Str) : Fb := fun K => He.eqO (PySem.W.findIn K (.ref (He.ga K C)) f) (some (some (.ref (He.ma K (He.ga K C) f)))) && (He.eqO (PySem.W.specialIn K (.ref (He.ma K (He.ga K C) f)) "__get__") (some (some (.builtin "property.__get__"))) &&
  (decide (PySem.W.takesIn K (.ref (He.ma K (He.ga K C) f)) = some true) && (match PySem.W.recIn K (He.ma K (He.ga K C) f) "property" with
  | some (.ref _ :: _) => true
  | _ => false)))
section
variable {K : PySem.W.Frag} {C m f : Str}
theorem read_ok (h : readB C K = true) : ClX.CRead K (He.ga K C) (mcl K C) := ⟨(He.ba h).1, He.eqO_ok (He.ba h).2⟩
theorem rec_some {T : String} {C m : Str} (h : (match PySem.W.recIn K (He.ma K (He.ga K C) m) T with
  | some (.ref _ :: _) => true
  | _ => false) = true) : ∃ rest, PySem.W.recIn K (He.ma K (He.ga K C) m) T = some (.ref (recG K T C m) :: rest) := by
  unfold recG
  split at h
  · rename_i g r e
    rw [e]
    exact ⟨r, rfl⟩
  · cases h
theorem cm_ok (h : cmB C m K = true) : ClX.CMet K (He.ga K C) (mcl K C) m (He.ma K (He.ga K C) m) (recG K "classmethod" C m) := by
  obtain ⟨h1, h2⟩ := He.ba h
  obtain ⟨h2, h3⟩ := He.ba h2
  refine ⟨?_, rec_some h2, h3⟩
  split at h1
  · rename_i b p c e
    obtain ⟨k1, k2⟩ := He.ba h1
    obtain ⟨k2, k3⟩ := He.ba k2
    rw [e, of_decide_eq_true k1, of_decide_eq_true k2, of_decide_eq_true k3]
  · cases h1
theorem prop_ok (h : propB C f K = true) : PropOf K (He.ga K C) f (He.ma K (He.ga K C) f) (recG K "property" C f) := by
  obtain ⟨h1, h2⟩ := He.ba h
  obtain ⟨h2, h3⟩ := He.ba h2
  obtain ⟨h3, h4⟩ := He.ba h3
  exact ⟨He.eqO_ok h1, He.eqO_ok h2, of_decide_eq_true h3, rec_some h4⟩
/-- a table of one row -/
theorem tab_nil {p : Str → Fn → Prop} : ∀ C F, ([] : List (Str × Fn)).lookup C = some F → p C F := fun _ _ e => by cases e
theorem tab_cons {p : Str → Fn → Prop} {C : Str} {F : Fn} {tab : List (Str × Fn)} (h1 : p C F) (h2 : ∀ C F, tab.lookup C = some F → p C F) : ∀ B G, ((C, F) :: tab).lookup B = some G → p B G := fun B G e => by
  rw [List.lookup_cons] at e
  cases q : (B == C) with
  | true =>
    rw [q] at e
    cases e
    rw [beq_iff_eq.mp q]
    exact h1
  | false =>
    rw [q] at e
    exact h2 B G e
end
end PM
set_option Elab.async false
set_option linter.all false
set_option maxRecDepth 100000
set_option maxHeartbeats 1200000
namespace PM
open PySem PySem.Spec L2
/-! ### min, max of two ints -/
def opMin : D → D → Option RV
  | .int i, .int j => some (.sh (.int (if j < i then j else i)))
  | _, _ => none
section
variable {X : Cx} {E : Ent}
theorem cl_min (hc : X.calm = true) : CallR X (.builtin "min") (rdC2 X.K E opMin) := call_cases fun vs H Q ⟨v, w, e0, σ, st, φ, I, x, y, r, R, hx, hy, e, q⟩ => by
  subst e0
  cases x <;> try (simp [opMin] at e; done)
  all_goals cases y <;> try (simp [opMin] at e; done)
  cases e
  cases hx.int
  cases hy.int
  exact ⟨_, call_min2 hc, _, _, rfl, q.sh R (.int _)⟩
/-- a statement of a class's body -/
def inCls (t : Stmt) (j : Nat) : Stmt := match t with
  | .ClassDef _ _ _ body _ _ _ _ _ _ _ => body.getD j (.Pass ⟨0, 0, 0, 0⟩)
  | _ => .Pass ⟨0, 0, 0, 0⟩
end
end PM
set_option Elab.async false
set_option linter.all false
set_option maxRecDepth 100000
set_option maxHeartbeats 1200000
namespace PM
open PySem PySem.Spec L2 PyProof.Rows
/-! ### built-in exceptions that own classes stand straight over -/
/-- B's own __init__ -/
structure IniF (B initId : String) : Prop where
  kind : builtinKind initId = some .slot
  split : splitId initId = some (B, "__init__")
  row : Manifest.signature? initId = some ⟨.positional, "*", B, .self, [⟨"args", .varPos, false⟩]⟩
  noStar : (B != "*") = true
  init : PySem.Slot B "__init__" initId
  entry : entryFor table initId = some Builtin.«BaseException.__init__»
/-- B, whose instances newId makes (its own, or a base's) -/
structure BxF (B newId initId : String) (bm : List Value) : Prop where
  new : ∃ Bn initN bmN, ExcBaseFacts Bn newId initN bmN ∧ bm.contains (.type Bn) = true
  noA : bm.contains (.type "AttributeError") = false
  noN : bm.contains (.type "NameError") = false
  self : bm.contains (.type B) = true
  ini : IniF B initId
  store : StoreFacts B bm "object.__setattr__" "object"
theorem IniF.of {B newId initId : String} {bm : List Value} (F : ExcBaseFacts B newId initId bm) : IniF B initId := ⟨F.initKind, F.initSplit, F.initRow, F.noStar, F.init, F.initEntry⟩
theorem BxF.of {B newId initId : String} {bm : List Value} (F : ExcBaseFacts B newId initId bm) (S : StoreFacts B bm "object.__setattr__" "object") : BxF B newId initId bm := ⟨⟨B, initId, bm, F, F.hasB⟩, F.noAttr, F.noName, F.hasB, .of F, S⟩
/-- what the part of the heap says of an own class C straight over B: C's fields are none of its class's names -/
structure XcF (K : PySem.W.Frag) (B newId initId : String) (bm : List Value) (C : Addr) : Prop where
  b : BxF B newId initId bm
  shape : PySem.W.excInitIn K C bm newId = true
  over : PySem.W.excOver K C bm = true
  dct : PySem.W.hasDictIn K C = true
  sa : PySem.W.findIn K (.ref C) "__setattr__" = some (some (.builtin "object.__setattr__"))
  exC : PySem.W.subIn K (.ref C) (.type "BaseException") = some true
  tyC : PySem.W.typeIn K (.ref C) = some (.type "type")
  kC : PySem.W.keepIn K (.ref C) = true
section
open Builtin Builtin.ObjectAttr
variable {prog : Program} {w : World} {A : Around} {E : Value → Shared → Prop} {R : Result → Shared → Prop} {hp : Heap} {g : Array GenState} {d : Drawn} {t : Nat} {os : OsState} {B newId initId : String} {bm : List Value} {K : W.Frag} {x C : Addr}
theorem taker_none {f : Str} (h : PySem.W.findIn K (.ref C) f = some none) : PySem.W.takerIn K C f = some none := by
  unfold PySem.W.takerIn
  rw [h]
  rfl
theorem cls_of_dct (h : PySem.W.hasDictIn K C = true) : ∃ cd, PySem.W.clsIn K C = some cd ∧ cd.hasDict = true := by
  obtain ⟨cd, h1, h2⟩ := PySem.W.any_some h
  exact ⟨cd, h1, h2⟩
/-- self.f = v: the first field -/
theorem xosa_new {f : Str} {tk : Tok} {v : Value} {fv : Array Value} (T : XcF K B newId initId bm C) (X : K.In hp) (hx : hp.get? x = some { cls := .ref C, data := .fields fv }) (hf : PySem.W.findIn K (.ref C) f = some none)
    (hq : ∀ h' tk' dx, (∀ b o, b ≠ x → hp.get? b = some o → h'.get? b = some o) → hp.objs.size ≤ dx → dx ≠ x → h'.get? x = some { cls := .ref C, dict := some dx, data := .fields fv } →
      h'.Ns1 dx (fun y => if y = f then some v else none) → R (.ok (.ret .none)) ⟨h', g, d, tk', os⟩) :
    codeAny (model prog w) A (.call (.builtin "object.__setattr__") ⟨[.ref x, .str f tk, v], []⟩) R ⟨hp, g, d, t, os⟩ := by
  obtain ⟨cd, hcd, hh⟩ := cls_of_dct T.dct
  have I : PySem.W.InstAt hp x { cls := .ref C, data := .fields fv } C none := ⟨hx, rfl, rfl, trivial⟩
  have ne : x ≠ hp.objs.size := Nat.ne_of_lt (Heap.lt_size hx)
  have lc : PySem.W.Looks (model prog w) hp (classData C) cd := PySem.W.looks_clsIn X hcd
  refine PySem.W.osa_openX (s := ⟨hp, g, d, t, os⟩) T.b.store X I T.over (taker_none hf) fun bb => ?_
  show wpAny _ _ (storeInOwnDict (.ref x) (.ref C) (.str f tk) f v bb) _ _ _
  obtain ⟨nm, bs, mro, ns, qn, hd, sn, sb, ab, col, del⟩ := cd
  dsimp only at hh
  subst hh
  unfold storeInOwnDict ownDictForStores
  repeat (first | with_reducible refine PySem.HandSPX.store_in_new ?_ ?_ | with_reducible refine wpAny_loadPart_at hx ?_ | with_reducible refine lc.at ?_ | wp_step)
  · exact ⟨_, #[], _, (Heap.get?_update_ne _ _ _ _ ne.symm).trans (Heap.get?_push_at rfl rfl), rfl, fun e he => absurd he (by simp), fun _ => rfl⟩
  · intro h1 tk1 hn1 hs1
    have hx1 : (hp.push { cls := .type "dict", data := .dict #[] }).get? x = some { cls := .ref C, data := .fields fv } := Heap.get?_push_of_some _ hx
    refine hq h1 tk1 hp.objs.size (fun b o hb ho => ?_) (Nat.le_refl _) ne.symm ((hs1.2 x ne).trans (Heap.get?_update_self _ hx1 rfl)) hn1
    exact (hs1.2 b (Nat.ne_of_lt (Heap.lt_size ho))).trans ((Heap.get?_update_ne _ _ _ _ hb).trans (Heap.get?_push_of_some _ ho))
/-- .. a further one -/
theorem xosa_old {f : Str} {tk : Tok} {v : Value} {dx : Addr} {fv : Array Value} {m0 : Str → Option Value} {nl : List Str} (T : XcF K B newId initId bm C) (X : K.In hp) (hx : hp.get? x = some { cls := .ref C, dict := some dx, data := .fields fv })
    (hns : hp.Ns1 dx m0) (hw : Within m0 nl) (hz : nl.length ≤ 1000) (hf : PySem.W.findIn K (.ref C) f = some none)
    (hq : ∀ h' tk', (∀ b o, b ≠ dx → hp.get? b = some o → h'.get? b = some o) → h'.Ns1 dx (fun y => if y = f then some v else m0 y) → R (.ok (.ret .none)) ⟨h', g, d, tk', os⟩) :
    codeAny (model prog w) A (.call (.builtin "object.__setattr__") ⟨[.ref x, .str f tk, v], []⟩) R ⟨hp, g, d, t, os⟩ := by
  obtain ⟨cd, hcd, hh⟩ := cls_of_dct T.dct
  obtain ⟨oD, esD, epD, hoD, hdD, _⟩ := hns.count hw
  have I : PySem.W.InstAt hp x { cls := .ref C, dict := some dx, data := .fields fv } C (some oD) := ⟨hx, rfl, rfl, hoD⟩
  have lc : PySem.W.Looks (model prog w) hp (classData C) cd := PySem.W.looks_clsIn X hcd
  refine PySem.W.osa_openX (s := ⟨hp, g, d, t, os⟩) T.b.store X I T.over (taker_none hf) fun bb => ?_
  show wpAny _ _ (storeInOwnDict (.ref x) (.ref C) (.str f tk) f v bb) _ _ _
  obtain ⟨nm, bs, mro, ns, qn, hd, sn, sb, ab, col, del⟩ := cd
  dsimp only at hh
  subst hh
  unfold storeInOwnDict ownDictForStores
  repeat (first | with_reducible refine PySem.OEX.store_in_old hns hw hz ?_ | with_reducible refine wpAny_loadPart_at hx ?_ | with_reducible refine lc.at ?_ | wp_step)
  intro h1 tk1 hn1 hs1
  exact hq h1 tk1 (fun b o hb ho => (hs1.2 b hb).trans ho) hn1
end
/-! ### C(..): newId, then the own __init__ -/
section
variable {prog : Program} {w : World} {A : Around} {E : Value → Shared → Prop} {R : Result → Shared → Prop} {h : Heap} {g : Array GenState} {d : Drawn} {t : Nat} {os : OsState} {nm q : Str} {C N fI : Addr} {bs bm bmC bmN : List Value} {hdct ab : Bool} {sn : List Str} {sub : List Value} {col : Option Bool} {dd : Option Addr} {k0 k1 k2 k3 k5 : Option Value} {B Bn newId initId initN : String} {rest : List Value}
theorem xnew_check {M : Model} {Q : Unit → Shared → Prop} (F : ExcBaseFacts Bn newId initN bmN) (hB : bmC.contains (.type Bn) = true) (hC : h.get? C = some (excClassObj nm q C N bs bmC hdct sn sub ab col dd k0 k1 k2 k3 k5 newId)) (hq : Q () ⟨h, g, d, t, os⟩) :
    wpAny M A (checkBuiltinCall newId ⟨.ref C :: rest, []⟩) Q E ⟨h, g, d, t, os⟩ := by
  have c1 : (Value.ref C :: bmC).contains (.type Bn) = true := by rw [List.contains_cons, hB, Bool.or_true]
  have c2 := F.noStar
  simp only [checkBuiltinCall, F.newKind, F.newSplit, F.newRow]
  repeat (first | refine wpAny_loadPart_at hC ?_ | (refine wpAny_isSubtype_exc hC ?_; rw [c1]) | refine wpAny_staticBase_exc hC ?_ | refine wpAny_madeBy_exc hC ?_ | simp only [bne_self_eq_false, Bool.false_eq_true, if_false] | wp_step)
  exact hq
theorem xinit_check {M : Model} {Q : Unit → Shared → Prop} {e : Addr} {oe : Obj} (F : IniF B initId) (hB : bmC.contains (.type B) = true) (hC : h.get? C = some (excClassObj nm q C N bs bmC hdct sn sub ab col dd k0 k1 k2 k3 k5 newId)) (he : h.get? e = some oe) (hcls : oe.cls = .ref C) (hq : Q () ⟨h, g, d, t, os⟩) :
    wpAny M A (checkBuiltinCall initId ⟨.ref e :: rest, []⟩) Q E ⟨h, g, d, t, os⟩ := by
  have c1 : (Value.ref C :: bmC).contains (.type B) = true := by rw [List.contains_cons, hB, Bool.or_true]
  have c2 := F.noStar
  simp only [checkBuiltinCall, F.kind, F.split, F.row]
  repeat (first | (with_reducible refine wpAny_loadPart_at he ?_; rw [hcls]) | with_reducible refine wpAny_loadPart_at hC ?_ | (with_reducible refine wpAny_isSubtype_exc hC ?_; rw [c1]) | wp_step)
  refine wpAny_onRaise ?_
  rw [show ∀ (a b : String) (n : Nat), Bind.check ⟨.positional, "*", B, .self, [⟨"args", .varPos, false⟩]⟩ a b n (List.map (fun x => x.fst) ({ pos := Value.ref e :: rest } : Args).kw) = pure () from fun a b n => check_star_args _ _ _ _ _ _]
  exact wpAny_pure hq
theorem xnew_run (F : ExcBaseFacts Bn newId initN bmN) (hB : bmC.contains (.type Bn) = true) (hA : bmC.contains (.type "AttributeError") = false) (hN : bmC.contains (.type "NameError") = false) (hC : h.get? C = some (excClassObj nm q C N bs bmC hdct sn sub ab col dd k0 k1 k2 k3 k5 newId))
    (hq : R (.ok (.ret (.ref (h.objs.size + 1)))) ⟨(h.push (PySem.W.kdv_tup rest)).push (PySem.HandSPX.excO C h.objs.size), g, d, t, os⟩) (hz : rest.length ≤ sizeLine) :
    codeAny (model prog w) A (.builtin newId ⟨.ref C :: rest, []⟩) R ⟨h, g, d, t, os⟩ := by
  have e0 := F.ends
  have c1 : (Value.ref C :: bmC).contains (.type Bn) = true := by rw [List.contains_cons, hB, Bool.or_true]
  have c2 : (Value.ref C :: bmC).contains (.type "AttributeError") = false := by rw [List.contains_cons, hA]; rfl
  have c3 : (Value.ref C :: bmC).contains (.type "NameError") = false := by rw [List.contains_cons, hN]; rfl
  refine codeAny_builtinAt F.entry ?_
  unfold Builtin.«BaseException.__new__»
  refine PySem.wpAt_bind ?_
  show PySem.wpAt _ _ _ (stack >>= _) _ _ _
  refine PySem.wpAt_bind (PySem.wpAt_stack fun p below => PySem.wpAt_of_wpAny ?_)
  wp_walk
  refine PySem.wpAt_of_wpAny ?_
  rw [F.owner]
  repeat (first | with_reducible refine wpAny_madeHere_exc F.canon hC ?_ | with_reducible refine wpAny_loadPart_at hC ?_ | (with_reducible refine wpAny_isSubtype_exc hC ?_; first | rw [c1] | rw [c2] | rw [c3]) | wp_step)
  show R _ _
  rw [Heap.size_push]
  exact hq
theorem xtype_call (F : ExcBaseFacts Bn newId initN bmN) (hB : bmC.contains (.type Bn) = true) (hA : bmC.contains (.type "AttributeError") = false) (hN : bmC.contains (.type "NameError") = false) {Q : Fin → Shared → Prop}
    (hC : h.get? C = some (excClassObj nm q C N bs bmC hdct sn sub ab col dd k0 k1 k2 k3 k5 newId)) (hi : PySem.W.Looks (model prog w) h (typeLookup (.ref C) "__init__") (some (.ref fI))) (hb : ∀ self, PySem.W.Looks (model prog w) h (bindSpecial (.ref fI) self) (.ref fI, [self])) (hz : rest.length ≤ sizeLine)
    (hq : codeAny (model prog w) A (.call (.ref fI) ⟨.ref (h.objs.size + 1) :: rest, []⟩) (fun r s' => match r with | .ok (.ret v) => v = .none ∧ Q (.done (.ret (.ref (h.objs.size + 1)))) s' | .ok _ => False | .error e => E e s') ⟨(h.push (PySem.W.kdv_tup rest)).push (PySem.HandSPX.excO C h.objs.size), g, d, t, os⟩) :
    wpAny (model prog w) A (Builtin.«type.__call__» ⟨.ref C :: rest, []⟩) Q E ⟨h, g, d, t, os⟩ := by
  repeat (first | with_reducible refine wpAny_loadPart_at hC ?_ | with_reducible refine wpAny_madeBy_exc hC ?_ | wp_step)
  refine codeAny_call_builtin_code (Code.quiet_builtin _ F.quiet) (xnew_check F hB hC (xnew_run F hB hA hN hC ?_ hz))
  show wpAny _ _ _ _ _ _
  have kk : ∀ b o, h.get? b = some o → ((h.push (PySem.W.kdv_tup rest)).push (PySem.HandSPX.excO C h.objs.size)).get? b = some o := fun b o e => Heap.get?_push_of_some _ (Heap.get?_push_of_some _ e)
  have c1 := kk _ _ hC
  have ge : ((h.push (PySem.W.kdv_tup rest)).push (PySem.HandSPX.excO C h.objs.size)).get? (h.objs.size + 1) = some (PySem.HandSPX.excO C h.objs.size) := by heap_get
  have cc : (Value.ref C :: bmC).contains (.ref C) = true := by simp
  have i1 := hi.keeps kk
  have b1 := (hb (.ref (h.objs.size + 1))).keeps kk
  unfold isInstance
  repeat (first | with_reducible refine wpAny_loadPart_at ge ?_ | (with_reducible refine wpAny_isSubtype_exc c1 ?_; rw [cc]) | wp_step)
  show wpAny _ _ (typeLookup (.ref C) _) _ _ _
  refine i1.at (wpAny_holding (wpAny_bind (b1.at (wpAny_bind (wpAny_call (codeAny_mono hq fun r s' z => ?_))))))
  rcases r with e | (v | _ | _ | _) <;> first | exact z | exact z.elim | skip
  obtain ⟨rfl, z⟩ := z
  first
    | exact wpAny_pure (wpAny_pure z)
    | (wp_walk; exact z)
theorem xcall (F : ExcBaseFacts Bn newId initN bmN) (hB : bmC.contains (.type Bn) = true) (hA : bmC.contains (.type "AttributeError") = false) (hN : bmC.contains (.type "NameError") = false)
    (hC : h.get? C = some (excClassObj nm q C N bs bmC hdct sn sub ab col dd k0 k1 k2 k3 k5 newId)) (hi : PySem.W.Looks (model prog w) h (typeLookup (.ref C) "__init__") (some (.ref fI))) (hb : ∀ self, PySem.W.Looks (model prog w) h (bindSpecial (.ref fI) self) (.ref fI, [self])) (hz : rest.length ≤ sizeLine)
    (hq : codeAny (model prog w) (A.under (.builtin "type.__call__" ⟨.ref C :: rest, []⟩)) (.call (.ref fI) ⟨.ref (h.objs.size + 1) :: rest, []⟩) (PySem.W.InitBack (h.objs.size + 1) R) ⟨(h.push (PySem.W.kdv_tup rest)).push (PySem.HandSPX.excO C h.objs.size), g, d, t, os⟩) :
    codeAny (model prog w) A (.call (.ref C) ⟨rest, []⟩) R ⟨h, g, d, t, os⟩ := by
  have f1 := tc_lookup
  have f2 := tc_bind (.ref C)
  have hTy : (⟨h, g, d, t, os⟩ : Shared).TypeIs (.ref C) "type" := ⟨_, hC, rfl⟩
  refine codeAny_of_tree ?_
  show wpAny _ _ (callAny (.ref C) _) _ _ _
  repeat (any_goals (first | assumption | with_reducible refine wpAny_loadPart_at hC ?_ | wp_step))
  refine ⟨rfl, codeAny_call_builtin_at (Code.quiet_builtin _ (by decide +kernel)) entry_typeCall (wpAny_check_type_call_sub hC (xtype_call F hB hA hN hC hi hb hz (codeAny_mono hq fun r s' z => ?_)))⟩
  rcases r with e | (v | _ | _ | _) <;> exact z
theorem xinit_run {e t0 : Addr} (F : IniF B initId) (hB : bmC.contains (.type B) = true) (hC : h.get? C = some (excClassObj nm q C N bs bmC hdct sn sub ab col dd k0 k1 k2 k3 k5 newId)) (he : h.get? e = some (PySem.HandSPX.excO C t0)) (hz : rest.length ≤ sizeLine)
    (hq : ∀ h' t1, (∀ b o, b ≠ e → h.get? b = some o → h'.get? b = some o) → h'.get? e = some (PySem.HandSPX.excO C t1) → R (.ok (.ret .none)) ⟨h', g, d, t, os⟩) :
    codeAny (model prog w) A (.call (.builtin initId) ⟨.ref e :: rest, []⟩) R ⟨h, g, d, t, os⟩ := by
  refine codeAny_call_builtin F.init.plain F.entry (xinit_check F hB hC he rfl ?_)
  wp_walk
  refine hq _ h.objs.size (fun b o hb ho => ?_) ?_
  · rw [Heap.get?_update_other _ _ (Ne.symm hb)]
    exact Heap.get?_push_of_some _ ho
  · rw [Heap.get?_update_self _ (Heap.get?_push_of_some _ he) rfl]
    rfl
end
/-! ### an exception that is being made -/
section
variable {X : Cx} {pins : List (Addr × Obj)} {σ : L2.St} {H : Hp} {s : Shared} {a C dx : Addr} {f : Str} {y : V} {u : Value} {fs : List (Str × V)} {Q : Unit → Shared → Prop} {E : Value → Shared → Prop} {A : Around} {B newId initId : String} {bm : List Value}
theorem xst_new (T : XcF X.K B newId initId bm C) (I : Inv X pins σ H s) (e : H a = some (exo a C none)) (hno : PySem.W.findIn X.K (.ref C) f = some none) (ry : RelV y u)
    (h : ∀ dx s', H dx = none → dx ≠ a → Inv X pins σ (upd (upd H dx (exd dx [(f, y)])) a (exo a C (some dx))) s' → Q () s') : wpAny (model X.prog X.w) A (setAttr (.ref a) f u) Q E s := by
  obtain ⟨t1, ho⟩ := exo_at I.hok e
  obtain ⟨hp, g, d, t, os⟩ := s
  refine PySem.W.set_plain I.kIn (ox := { cls := .ref C, dict := none, data := .fields #[.ref t1, .none, .none, .none, .bool false, .none] }) (od := none) ⟨ho, rfl, rfl, trivial⟩ T.sa ?_
  refine xosa_new T I.kIn ho hno (fun h' tk' dx k dn dne hx hn => ?_)
  have hnd : H dx = none := I.hok.fresh dn
  have nd : ∀ {b : Addr} {o : Obj}, hp.get? b = some o → b ≠ dx := fun {b o} q => Nat.ne_of_lt (Nat.lt_of_lt_of_le (Heap.lt_size q) dn)
  have na : ∀ {b : Addr}, H b = none → b ≠ a := fun {b} n z => by
    rw [z, e] at n
    cases n
  have U : Un X.fs [] H (upd (upd H dx (exd dx [(f, y)])) a (exo a C (some dx))) hp h' := by
    constructor
    · exact fun b o q n _ _ => k b o (na n) q
    · exact fun b o q n _ _ => ⟨o.slots, k b o (na n) q⟩
    · exact fun b o q n _ => ((upd_ne (na n)).trans (upd_ne (nd q))).trans n
    · exact fun b o q _ => (Decidable.em (b = a)).elim (fun hb => ⟨_, hb ▸ hx⟩) fun hb => ⟨o, k b o hb q⟩
    · exact fun b xs q => ((upd_ne (at_ne e q exo_tup)).trans (upd_ne (ne_of_none q hnd))).trans q
    · exact fun b o v q => ((upd_ne (at_ne e q exo_frz)).trans (upd_ne (ne_of_none q hnd))).trans q
    · exact fun b ps q => ⟨#[], ((upd_ne (at_ne e q exo_tbl)).trans (upd_ne (ne_of_none q hnd))).trans (by rw [q]; simp)⟩
  refine h dx _ hnd dne (I.un (t' := tk') U fun b o q => ?_)
  by_cases hb : b = a
  · rw [hb, upd_same] at q
    cases q
    rw [hb]
    exact exo_ok hx
  · rw [upd_ne hb] at q
    by_cases hd : b = dx
    · rw [hd, upd_same] at q
      cases q
      rw [hd]
      exact exd_ok hn (relO_put (fs := []) ry fun g => True.intro)
    · rw [upd_ne hd] at q
      refine (I.hok b o q).stay (fun c v hc z => k c v (hc.elim (fun w => w ▸ hb) fun w => at_ne e w exo_own) z) (fun c hc => ?_) fun c xs hc => ?_
      · exact ((upd_ne (at_ne e hc exo_own)).trans (upd_ne (ne_of_none hc hnd))).trans hc
      · exact ((upd_ne (at_ne e hc exo_tup)).trans (upd_ne (ne_of_none hc hnd))).trans hc
theorem xst_old (T : XcF X.K B newId initId bm C) (I : Inv X pins σ H s) (e : H a = some (exo a C (some dx))) (ed : H dx = some (exd dx fs)) (hl : fs.length ≤ 900) (hno : PySem.W.findIn X.K (.ref C) f = some none) (ry : RelV y u)
    (h : ∀ s', Inv X pins σ (upd H dx (exd dx ((f, y) :: fs))) s' → Q () s') : wpAny (model X.prog X.w) A (setAttr (.ref a) f u) Q E s := by
  obtain ⟨t1, ho⟩ := exo_at I.hok e
  obtain ⟨mA, hns, rel⟩ := exd_at I.hok ed
  have hw := within_of rel
  obtain ⟨hp, g, d, t, os⟩ := s
  obtain ⟨oD, _, _, hoD, _, _⟩ := hns.count hw
  refine PySem.W.set_plain I.kIn (ox := { cls := .ref C, dict := some dx, data := .fields #[.ref t1, .none, .none, .none, .bool false, .none] }) (od := some oD) ⟨ho, rfl, rfl, hoD⟩ T.sa ?_
  refine xosa_old T I.kIn ho hns hw (by rw [List.length_map]; omega) hno (fun h' tk' k hn => ?_)
  obtain ⟨o1, q1, q2, q3, q4⟩ := hn
  exact h _ (I.write (t' := tk') (x := dx) (e := dx) (o := exd dx ((f, y) :: fs)) (by rw [ed]; exact True.intro) (.inl rfl) k ⟨o1, q3⟩ (exd_ok ⟨o1, q1, q2, q3, q4⟩ (relO_put ry rel)))
/-- B.__init__(self, ..) -/
theorem xinit_ok {us : List Value} {Q : Value → Shared → Prop} (T : XcF X.K B newId initId bm C) (I : Inv X pins σ H s) (e : H a = some (exo a C none)) (hl : us.length ≤ sizeLine) (h : ∀ s', Inv X pins σ H s' → Q .none s') :
    wpAny (model X.prog X.w) A (call (.builtin initId) (.ref a :: us)) Q E s := by
  obtain ⟨nm, N, qn, bs, bm', hdct, sn, sub, ab, col, dd, k0, k1, k2, k3, k5, hC, hT⟩ := PySem.W.excInit_of I.kIn T.shape
  obtain ⟨t1, ho⟩ := exo_at I.hok e
  obtain ⟨hp, g, d, t, os⟩ := s
  refine wpAny_call (xinit_run T.b.ini ((hT B).trans T.b.self) hC ho hl fun h' t2 k hx => ?_)
  have J := I.write (t' := t) (x := a) (e := a) (o := exo a C none) (by rw [e]; exact True.intro) (.inl rfl) k ⟨_, hx⟩ (exo_ok hx)
  rw [show upd H a (exo a C none) = H from funext fun b => (Decidable.em (b = a)).elim (fun hb => by rw [hb, upd_same, e]) fun hb => upd_ne hb] at J
  exact h _ J
end
end PM
set_option Elab.async false
set_option linter.all false
set_option maxRecDepth 100000
set_option maxHeartbeats 4000000
/-! the built-in exceptions that own classes of this program stand over -/
namespace PM
open PySem PySem.Spec L2 PyProof.Rows
open PySem.F
theorem bx_ValueError : BxF "ValueError" "ValueError.__new__" "ValueError.__init__" [.type "ValueError", .type "Exception", .type "BaseException", .type "object"] := .of excBase_ValueError store_ValueError
end PM
set_option Elab.async false
set_option linter.all false
set_option maxRecDepth 100000
set_option maxHeartbeats 1200000
namespace PM
open PySem PySem.Spec L2 PyProof.Rows
/-! ### the __init__ of an own exception class: B.__init__(self, text), then self.f = f for its parameters -/
/-- what C's __init__ promises -/
def spX (C : Addr) (fs : List Str) : Sp := fun vs H Q _ => ∃ a ws, vs = .ref a :: ws ∧ H a = some (exo a C none) ∧ (match fs, ws with
  | [], [] => Q .non H
  | [f], [v] => ∀ dx, H dx = none → dx ≠ a → Q .non (upd (upd H dx (exd dx [(f, v)])) a (exo a C (some dx)))
  | [f, g], [v, u] => ∀ dx, H dx = none → dx ≠ a → Q .non (upd (upd (upd H dx (exd dx [(f, v)])) a (exo a C (some dx))) dx (exd dx [(g, u), (f, v)]))
  | _, _ => False)
theorem spX_len {C : Addr} {fs : List Str} {vs : List V} {H : Hp} {Q : VK} {E : XK} (h : spX C fs vs H Q E) : vs.length = fs.length + 1 := by
  obtain ⟨a, ws, rfl, _, h⟩ := h
  rw [List.length_cons]
  split at h
  · rfl
  · rfl
  · rfl
  · exact h.elim
/-- what the text's name of B must be -/
structure BxN (X : Cx) (B initId : String) (x : Str) : Prop where
  hg : Gl X x
  hm : X.mg x = none
  hv : bootBuiltins x = some (.type B)
  hd : (x == ("__debug__" : Str)) = false
  hn : x ≠ "__name__"
  ty : typeOf (.type B) = pure (.type "type")
  st : Manifest.isStub B = false
  vi : PySem.W.findCls X.K (.type B) (.type "type") "__init__" = some (.val (.builtin initId))
  hh : PySem.W.handedIn (.builtin initId) = true
section
variable {X : Cx} {B newId initId : String} {bm : List Value} {C : Addr} {x y z f g tx : Str} {j : Nat} {p1 p2 p3 p4 p5 p6 p7 p8 p9 p10 p11 p12 p13 p14 pos : Pos}
def tBxi (C : Addr) : TE := fun σ H Q => ∃ a, σ[0]? = some (some (.ref a)) ∧ H a = some (exo a C none) ∧ Q .non H
theorem pe_bxi {pl : Sem Bool} (T : XcF X.K B newId initId bm C) (n : BxN X B initId x) (hN : X.N[0]? = some ("self" : Str)) (hv : Vis X.env.scope "self")
    (hc : eval (.Call (.Attribute (.Name x p1) "__init__" p2) [.Name "self" p3, .Constant (.str tx) j p4] [] pos) X.env = (do
      let ov ← eval (.Name x p1) X.env
      standAt p2.atName
      let (f, first) ← holding [ov] (getMethod ov "__init__" pl)
      callWith pos f first (backTo pos (starEach [.Name "self" p3, .Constant (.str tx) j p4] X.env)) (backToKw pos (keywordEach [] X.env))) := by rfl)
    (hs : starEach [.Name "self" p3, .Constant (.str tx) j p4] X.env = (false, eval (.Name "self" p3) X.env) :: starEach [.Constant (.str tx) j p4] X.env := by rfl) (hs2 : starEach [.Constant (.str tx) j p4] X.env = (false, eval (.Constant (.str tx) j p4) X.env) :: starEach [] X.env := by rfl)
    (hpl : (backTo pos (starEach [.Constant (.str tx) j p4] X.env)).any (·.1) = false := by rfl) :
    PE X (.Call (.Attribute (.Name x p1) "__init__" p2) [.Name "self" p3, .Constant (.str tx) j p4] [] pos) (tBxi C) := by
  refine ⟨fun pins s σ H Q I ⟨a, h1, h2, h3⟩ => PySem.W.methodCall_KW (ld_blt I n.hg n.hm n.hv ?_ n.hn n.hd) hc⟩
  obtain ⟨m, fr⟩ := I.fr
  refine PySem.W.method_type fr I.ok.mod.kin n.ty n.st n.vi n.hh ?_
  show wpAny _ _ (callWith pos (Value.builtin initId) [] (backTo pos (starEach [.Name "self" p3, .Constant (.str tx) j p4] X.env)) []) _ _ _
  refine PyProof.Rows.callWith_method1 (thn ((pa_cons (pe_var (pos := p3) hN hv) (pa_cons pe_str pa_nil hs2) hs).run pos pins _ σ H (fun vs H1 => vs = [.ref a, .str tx] ∧ H1 = H) (I.tok _) ⟨.ref a, h1, rfl, rfl⟩) fun us s1 ⟨vs, H1, I1, r1, ev, eh⟩ => ?_) hs hpl
  subst ev eh
  cases r1 with
  | @cons _ u0 _ ur ra rw' =>
    obtain rfl : u0 = Value.ref a := ra
    exact xinit_ok T I1 h2 (by rw [← Paired.length rw', List.length_singleton, sizeLine_eq]; omega) fun s' J => ⟨.non, H1, J, rfl, h3⟩
/-- self.f = y -/
def tXst (K : PySem.W.Frag) (C : Addr) (i : Nat) (f : Str) : TS := fun D σ H => ∃ a v, σ[0]? = some (some (.ref a)) ∧ σ[i]? = some (some v) ∧ ((H a = some (exo a C none) ∧ ∀ dx, H dx = none → dx ≠ a → D.nx σ (upd (upd H dx (exd dx [(f, v)])) a (exo a C (some dx)))) ∨
    ∃ dx fs, H a = some (exo a C (some dx)) ∧ H dx = some (exd dx fs) ∧ fs.length ≤ 900 ∧ D.nx σ (upd H dx (exd dx ((f, v) :: fs))))
theorem ps_xst {i : Nat} (T : XcF X.K B newId initId bm C) (hno : PySem.W.findIn X.K (.ref C) f = some none) (hN : X.N[0]? = some ("self" : Str)) (hv : Vis X.env.scope "self") (hNi : X.N[i]? = some y) (hvi : Vis X.env.scope y) (hd : (y == ("__debug__" : Str)) = false) (hcd : (y == ("__classdict__" : Str)) = false)
    (hs : swapsWith (.Name y p1) (some (.Attribute (.Name "self" p2) f p3)) pos.line X.env = pure false := by rfl) : PS X (.Assign [.Attribute (.Name "self" p2) f p3] (.Name y p1) pos) (tXst X.K C i f) := by
  refine ⟨fun pins s σ H D I ⟨a, v, h1, h2, h⟩ => ?_⟩
  refine plainObj_wpAny_Assign_Attribute (thn ((pe_var (pos := p1) hNi hvi hd hcd).run pins s σ H (fun v' H1 => v' = v ∧ H1 = H) I ⟨v, h2, rfl, rfl⟩) fun v1 s1 ⟨y1, H1, I1, r1, e1, e2⟩ => thn ((pe_var (pos := p2) hN hv).run pins s1 σ H1 (fun v' H2 => v' = .ref a ∧ H2 = H1) I1 ⟨.ref a, h1, rfl, rfl⟩) fun u s2 ⟨x2, H2, I2, r2, e3, e4⟩ => ?_) hs
  subst e1 e2 e3 e4
  obtain rfl : u = Value.ref a := r2
  rcases h with ⟨ea, q⟩ | ⟨dx, fs, ea, ed, hl, q⟩
  · exact xst_new T I2 ea hno r1 fun dx s' n ne J => ⟨σ, _, J, q dx n ne⟩
  · exact xst_old T I2 ea ed hl hno r1 fun s' J => ⟨σ, _, J, q⟩
end
section
variable {P : Program} {w : World} {K : PySem.W.Frag} {mg : Str → Option Value} {base : Heap} {k : Nat} {fI C : Addr} {name qual f g y z x tx : Str} {j : Nat} {params : Arguments} {scope : Scope} {fd : FuncData} {B newId initId : String} {bm : List Value} {p1 p2 p3 p4 p5 p6 p7 p8 p9 p10 p11 p12 p13 p14 pos : Pos}
theorem xok1 (T : XcF K B newId initId bm C) (hno : PySem.W.findIn K (.ref C) f = some none) (F : FunD K name qual params [.Expr (.Call (.Attribute (.Name x p1) "__init__" p2) [.Name "self" p3, .Constant (.str tx) j p4] [] p5) p6, .Assign [.Attribute (.Name "self" p7) f p8] (.Name y p9) p10] scope [] [] fI fd)
    (S : FnScope ["self", y] ["self", y] scope)
    (h1 : ∀ cdv A outer s H E, PE (cxOf (L2.CX P w) P w K mg base ["self", y] qual scope fI cdv A outer s H E) (.Call (.Attribute (.Name x p1) "__init__" p2) [.Name "self" p3, .Constant (.str tx) j p4] [] p5) (tBxi C))
    (h2 : ∀ cdv A outer s H E, PS (cxOf (L2.CX P w) P w K mg base ["self", y] qual scope fI cdv A outer s H E) (.Assign [.Attribute (.Name "self" p7) f p8] (.Name y p9) p10) (tXst K C 1 f))
    (hs1 : ∀ cdv A outer s H E, swapsWith (.Call (.Attribute (.Name x p1) "__init__" p2) [.Name "self" p3, .Constant (.str tx) j p4] [] p5) none p6.line (cxOf (L2.CX P w) P w K mg base ["self", y] qual scope fI cdv A outer s H E).env = pure false := by intros; rfl) :
    FnOk P w K mg base (L2.CX P w) (k + 1) fI fd ["self", y] (spX C [f]) := F.ok S (fun _ _ _ _ h => (spX_len h).trans rfl) fun cdv A outer s H vs Q E hr hsp => by
  refine ⟨_, pss_cons (ps_expr (h1 cdv A outer s H E) (hs1 cdv A outer s H E)) (pss_one (h2 cdv A outer s H E)), ?_⟩
  obtain ⟨a, ws, rfl, ha, h⟩ := hsp
  match ws, h with
  | [], h => exact h.elim
  | _ :: _ :: _, h => exact h.elim
  | [v], h => exact ⟨a, rfl, ha, a, v, rfl, rfl, .inl ⟨ha, h⟩⟩
end
/-! ### raise C(..) -/
def mRaise (C : Str) (fs : List Str) (args : M (List D)) : MS := args.then fun ds st => if ds.length = fs.length then .exc ⟨.own C, if fs = [] then none else some (fs.zip ds).reverse⟩ st else .stuck
/-- what is wished of C(..) -/
def tMkX (C : Addr) (fs : List Str) (ta : TA) : L2.St → Hp → XK → Prop := fun σ H Q => ta σ H fun vs H1 => vs.length = fs.length ∧ (fs = [] → Q (.ref C) none H1) ∧ (fs ≠ [] → ∀ dx, H1 dx = none → Q (.ref C) (some dx) (upd H1 dx (.xd (fs.zip vs).reverse)))
section
variable {X : Cx} {B newId initId : String} {bm : List Value} {C fI : Addr} {fs : List Str} {k : Nat} {fd : FuncData} {ps : List Str}
theorem mk_endN {pins : List (Addr × Obj)} {σ : L2.St} {H1 : Hp} {Q : XK} {hp hp2 h2 : Heap} {g1 g2 : Array GenState} {d1 d2 : Drawn} {t1 t2 : Nat} {os1 os2 : OsState} {a C : Addr} (T : Raises X (.ref C)) (I1 : Inv X pins σ H1 ⟨hp, g1, d1, t1, os1⟩)
    (ha : hp.objs.size ≤ a) (k : ∀ b o, hp.get? b = some o → hp2.get? b = some o) (un : Un (frs X.stack) [] (upd H1 a (exo a C none)) (upd H1 a (exo a C none)) hp2 h2) (hok : HOk X.prog X.w (upd H1 a (exo a C none)) h2) (ho : os2 = os1) (hb : AllBare g2)
    (q : Q (.ref C) none H1) : MkP X pins σ Q (.ref a) ⟨h2, g2, d2, t2, os2⟩ := by
  obtain ⟨t0, hoe⟩ := exo_at hok (upd_same : upd H1 a (exo a C none) a = _)
  have hn : H1 a = none := I1.hok.fresh ha
  obtain ⟨G, q1, q2⟩ := restrict h2 fun b => decide (b ≠ a)
  have gk : ∀ b, b ≠ a → G.get? b = h2.get? b := fun b hb => q1 b (decide_eq_true hb)
  have ge : G.get? a = none := q2 a (by simp)
  have nha : ∀ {b : Addr} {o : Obj}, hp.get? b = some o → b ≠ a := fun {b o} z => Nat.ne_of_lt (Nat.lt_of_lt_of_le (Heap.lt_size z) ha)
  have up : ∀ {b : Addr}, b ≠ a → H1 b = none → upd H1 a (exo a C none) b = none := fun {b} hb n => (upd_ne hb).trans n
  have neh : ∀ {b : Addr} {o : HO}, H1 b = some o → b ≠ a := fun {b o} z => ne_of_none z hn
  have U : Un (frs X.stack) [] H1 H1 hp G := by
    constructor
    · exact fun b o z n hf hx => (gk b (nha z)).trans (un.keep b o (k b o z) (up (nha z) n) hf hx)
    · exact fun b o z n hf hx => by rw [gk b (nha z)]; exact un.slot b o (k b o z) (up (nha z) n) hf hx
    · exact fun b o z n hx => n
    · exact fun b o z hx => by rw [gk b (nha z)]; exact un.there b o (k b o z) hx
    · exact fun b xs z => z
    · exact fun b o v z => z
    · exact fun b ps z => ⟨#[], by rw [z]; simp⟩
  have hok3 : HOk X.prog X.w H1 G := fun b o z => by
    refine (hok b o ((upd_ne (neh z)).trans z)).stay (fun c v hc y => ?_) (fun c hc => ?_) fun c xs hc => ?_
    · have hca : c ≠ a := by
        rcases hc with hc | hc
        · rw [hc]; exact neh z
        · exact at_ne (upd_same : upd H1 a (exo a C none) a = _) hc exo_own
      rw [gk c hca]
      exact y
    · by_cases e : c = a
      · rw [e, upd_same] at hc
        exact absurd (Option.some.inj hc) exo_own
      · rw [upd_ne e] at hc; exact hc
    · by_cases e : c = a
      · rw [e, upd_same] at hc
        exact absurd (Option.some.inj hc) exo_tup
      · rw [upd_ne e] at hc; exact hc
  have J : Inv X pins σ H1 ⟨G, g2, d2, t2, os2⟩ := I1.call' (ch := []) ho U hok3 hb (fun b z => absurd z (by simp))
  refine ⟨a, _, _, ⟨G, g2, d2, t2, os2⟩, _, .ref C, none, rfl, J, fun b o z => ?_, ge, hoe, ⟨rfl, rfl⟩, rfl, rfl, hn, rfl, hb, T, q⟩
  by_cases hba : b = a
  · rw [hba, ge] at z
    cases z
  · exact (gk b hba).symm.trans z
theorem run_mkx {W : WX} {pins : List (Addr × Obj)} {σ : L2.St} {H1 : Hp} {s1 : Shared} {Q : XK} {us : List Value} {vs : List V} (T : XcF X.K B newId initId bm C) (iC : PySem.W.findIn X.K (.ref C) "__init__" = some (some (.ref fI))) (tI : PySem.W.typeIn X.K (.ref fI) = some (.type "function"))
    (F1 : FnOk X.prog X.w X.K X.mg X.base (L2.CX X.prog X.w) k fI fd ps (spX C fs)) (hr : Room (k + 1) X.A) (hb : Binds X.K fd ps []) (tk : Takes X W) (hfs : fs.length ≤ 2) (I1 : Inv X pins σ H1 s1) (r1 : Vals vs us)
    (hl : vs.length = fs.length) (q0 : fs = [] → Q (.ref C) none H1) (q1 : fs ≠ [] → ∀ dx, H1 dx = none → Q (.ref C) (some dx) (upd H1 dx (.xd (fs.zip vs).reverse))) : wpAny (model X.prog X.w) X.A (call (.ref C) us) (MkP X pins σ Q) X.xe s1 := by
  obtain ⟨hp, g, dr, tkk, os⟩ := s1
  obtain ⟨nm, N, qn, bs, bm', hdct, sn, sub, ab, col, dd, k0, k1, k2, k3, k5, hC, hT⟩ := PySem.W.excInit_of I1.kIn T.shape
  obtain ⟨Bn, initN, bmN, F, hB⟩ := T.b.new
  have hsz : hp.objs.size ≤ hp.objs.size + 1 := Nat.le_succ _
  have hn : H1 (hp.objs.size + 1) = none := I1.hok.fresh hsz
  have kk : ∀ b o, hp.get? b = some o → ((hp.push (PySem.W.kdv_tup us)).push (PySem.HandSPX.excO C hp.objs.size)).get? b = some o := fun b o e => Heap.get?_push_of_some _ (Heap.get?_push_of_some _ e)
  have hget : ((hp.push (PySem.W.kdv_tup us)).push (PySem.HandSPX.excO C hp.objs.size)).get? (hp.objs.size + 1) = some (PySem.HandSPX.excO C hp.objs.size) := by heap_get
  have I2 : Inv X pins σ (upd H1 (hp.objs.size + 1) (exo (hp.objs.size + 1) C none)) ⟨(hp.push (PySem.W.kdv_tup us)).push (PySem.HandSPX.excO C hp.objs.size), g, dr, tkk, os⟩ :=
    I1.laid (t' := tkk) (a := hp.objs.size + 1) (o := exo (hp.objs.size + 1) C none) (h' := (hp.push (PySem.W.kdv_tup us)).push (PySem.HandSPX.excO C hp.objs.size)) kk hsz (exo_ok hget)
  have r2 : Vals (V.ref (hp.objs.size + 1) :: vs) (Value.ref (hp.objs.size + 1) :: us) := .cons rfl r1
  have hus : us.length ≤ sizeLine := by
    rw [← Paired.length r1, sizeLine_eq, hl]
    omega
  obtain ⟨a, ea⟩ : ∃ a, a = hp.objs.size + 1 := ⟨_, rfl⟩
  have kdel : ∀ {dx : Addr} {ys : List (Str × V)} {H2 : Hp}, dx ≠ a → (∀ b, b ≠ a → b ≠ dx → H2 b = H1 b) → upd (del H2 a) dx (.xd ys) = upd H1 dx (.xd ys) := fun {dx ys H2} hd hh => by
    funext b
    by_cases e1 : b = dx
    · rw [e1, upd_same, upd_same]
    · rw [upd_ne e1, upd_ne e1]
      by_cases e2 : b = a
      · rw [e2, del_same, ea, hn]
      · rw [del_ne e2, hh b e2 e1]
  have hsp : spX C fs (V.ref (hp.objs.size + 1) :: vs) (upd H1 (hp.objs.size + 1) (exo (hp.objs.size + 1) C none)) (fun v H2 => v = .non ∧ ((fs = [] ∧ H2 = upd H1 a (exo a C none)) ∨ ∃ (d : Addr) (ys : List (Str × V)), H2 a = some (exo a C (some d)) ∧ H2 d = some (exd d ys) ∧ H1 d = none ∧ Q (.ref C) (some d) (upd (del H2 a) d (.xd ys)))) (fun _ _ _ => False) := by
    rw [← ea]
    refine ⟨a, vs, rfl, upd_same, ?_⟩
    match fs, vs, hl, hfs with
    | [], [], _, _ => exact ⟨rfl, .inl ⟨rfl, rfl⟩⟩
    | [f], [v], _, _ =>
      intro dx hdx hne
      have h1 : H1 dx = none := by rw [upd_ne hne] at hdx; exact hdx
      refine ⟨rfl, .inr ⟨dx, [(f, v)], upd_same, (upd_ne hne).trans upd_same, h1, ?_⟩⟩
      rw [kdel hne fun b e1 e2 => (upd_ne e1).trans ((upd_ne e2).trans (upd_ne e1))]
      exact q1 (by simp) dx h1
    | [f, g], [v, u], _, _ =>
      intro dx hdx hne
      have h1 : H1 dx = none := by rw [upd_ne hne] at hdx; exact hdx
      refine ⟨rfl, .inr ⟨dx, [(g, u), (f, v)], (upd_ne (Ne.symm hne)).trans upd_same, upd_same, h1, ?_⟩⟩
      rw [kdel hne fun b e1 e2 => (upd_ne e2).trans ((upd_ne e1).trans ((upd_ne e2).trans (upd_ne e1)))]
      exact q1 (by simp) dx h1
    | _ :: _ :: _ :: _, _, _, h => exact absurd h (by simp)
  have hlen : (Value.ref (hp.objs.size + 1) :: us ++ []).length = ps.length := by
    have e := r2.length
    rw [F1.len _ _ _ _ hsp] at e
    rw [List.append_nil]
    exact e.symm
  refine wpAny_call (xcall F ((hT _).trans hB) ((hT _).trans T.b.noA) ((hT _).trans T.b.noN) hC (PySem.W.looks_findIn I1.kIn iC) (fun self => PySem.W.bind_fn I1.kIn self tI) hus
    (codeAny_mono (F1.run _ X.stack _ _ ⟨Value.ref (hp.objs.size + 1) :: us, []⟩ (Value.ref (hp.objs.size + 1) :: us) _ _ (fun _ _ _ => False) (hr.make C us []) (I2.env0.make C us []) (by have z := hb _ (Value.ref (hp.objs.size + 1) :: us) I2.kIn hlen; rw [List.append_nil] at z; exact z) r2 hsp) fun r s' hq' => ?_))
  cases r with
  | error er => exact passes_call (E := fun _ _ _ => False) tk (fun _ _ _ _ h => h.elim) pins σ _ _ er s' I2 hq'
  | ok fl =>
    cases fl with
    | next => exact False.elim hq'
    | brk => exact False.elim hq'
    | cont => exact False.elim hq'
    | ret u =>
      obtain ⟨v, H2, os2, bare2, un2, hok2, rv, ev, q⟩ := hq'
      subst ev
      obtain ⟨h2, g2, d2, t2, os'⟩ := s'
      rcases q with ⟨e0, rfl⟩ | ⟨d, ys, ea', ed, hd1, q2⟩
      · rw [ea] at un2 hok2
        exact ⟨rv, mk_endN (raises_own T.exC T.tyC) I1 hsz kk un2 hok2 os2 bare2 (q0 e0)⟩
      · rw [ea] at ea' q2
        exact ⟨rv, mk_end (raises_own T.exC T.tyC) I1 hsz kk un2 hok2 os2 bare2 ea' ed hd1 q2⟩
variable {W : WX} {x : Str} {e : Expr} {es : List Expr} {ta : TA} {p pos : Pos}
theorem pmk_x (T : XcF X.K B newId initId bm C) (iC : PySem.W.findIn X.K (.ref C) "__init__" = some (some (.ref fI))) (tI : PySem.W.typeIn X.K (.ref fI) = some (.type "function"))
    (F1 : FnOk X.prog X.w X.K X.mg X.base (L2.CX X.prog X.w) k fI fd ps (spX C fs)) (hr : Room (k + 1) X.A) (hb : Binds X.K fd ps []) (tk : Takes X W) (hfs : fs.length ≤ 2) (hg : Gl X x) (hm : X.mg x = some (.ref C)) (ha : PA X (e :: es) ta)
    (hdb : (x == ("__debug__" : Str)) = false) (he : starEach (e :: es) X.env = (false, eval e X.env) :: starEach es X.env) (hpl : (backTo pos (starEach es X.env)).any (·.1) = false) :
    PMk X (.Call (.Name x p) (e :: es) [] pos) (tMkX C fs ta) := fun pins s σ H Q I h => by
  refine wpAny_Call_Name_kw (ld_glob I hg hm ?_ hdb)
  exact PySem.W.callWith_K (h₀ := X.base) I.ok.mod.kin T.kC (thn (ha.run pos pins s σ H _ I h) fun us s1 ⟨vs, H1, I1, r1, hl, q0, q1⟩ => ⟨I1.kIn, run_mkx T iC tI F1 hr hb tk hfs I1 r1 hl q0 q1⟩) he hpl
end
/-- C is an own exception class with these fields, its __init__ walked -/
structure XcP (P : Program) (w : World) (K : PySem.W.Frag) (mg : Str → Option Value) (base : Heap) (k : Nat) (C : Str) (fs : List Str) : Prop where
  ex : ∃ (B newId initId : String) (bm : List Value) (fI : Addr) (fd : FuncData) (ps : List Str), XcF K B newId initId bm (He.ga K C) ∧ PySem.W.findIn K (.ref (He.ga K C)) "__init__" = some (some (.ref fI)) ∧ PySem.W.typeIn K (.ref fI) = some (.type "function") ∧
    FnOk P w K mg base (L2.CX P w) k fI fd ps (spX (He.ga K C) fs) ∧ Binds K fd ps []
  len : fs.length ≤ 2
abbrev XcOk (X : Cx) (k : Nat) (C : Str) (fs : List Str) : Prop := XcP X.prog X.w X.K X.mg X.base k C fs
section
variable {X : Cx} {E : Ent} {W : WX} {k : Nat} {C : Str} {fs : List Str} {x : Str} {e : Expr} {es : List Expr} {ma : M (List D)} {p pos pos' : Pos}
theorem ss_raise (xc : XcOk X k C fs) (hr : Room (k + 1) X.A) (hc : X.calm = true) (tk : Takes X W) (hg : Gl X x) (hm : X.mg x = some (.ref (He.ga X.K C))) (ha : SA X E W (e :: es) ma)
    (hdb : (x == ("__debug__" : Str)) = false := by decide) (he : starEach (e :: es) X.env = (false, eval e X.env) :: starEach es X.env := by rfl) (hpl : (backTo pos (starEach es X.env)).any (·.1) = false := by rfl) :
    SS X E W (.Raise (some (.Call (.Name x p) (e :: es) [] pos)) none pos') (mRaise C fs ma) := by
  obtain ⟨B, newId, initId, bm, fI, fd, ps, T, iC, tI, F1, hb⟩ := xc.ex
  refine PSi (ps_raise hc tk (pmk_x T iC tI F1 hr hb tk xc.len hg hm ha hdb he hpl)) fun D0 σ H ⟨st, φ, I, R, q⟩ => ⟨st, φ, I, R, (Ps.then q).imp fun ds H1 st1 φ1 I1 S1 R1 q vs hv => ?_⟩
  by_cases hl : ds.length = fs.length
  · rw [if_pos hl] at q
    have hlv : vs.length = fs.length := by rw [← hv.len]; exact hl
    refine ⟨hlv, fun e0 => ?_, fun e0 dx hdx => ?_⟩
    · rw [if_pos e0] at q
      exact q none σ H1 φ1 I1 Grow.refl R1 rfl
    · rw [if_neg e0] at q
      obtain ⟨R2, S2⟩ := R1.laidO hdx (.xd (fs.zip vs).reverse)
      have h0 := (R1.fresh hdx).1
      refine q (some dx) σ _ φ1 I1 Grow.refl R2 ⟨dx, (fs.zip vs).reverse, rfl, h0, upd_same, ?_, ?_⟩
      · rw [List.map_reverse, List.map_reverse, List.map_fst_zip (by omega), List.map_fst_zip (by omega)]
      · rw [List.map_reverse, List.map_reverse, List.map_snd_zip (by omega), List.map_snd_zip (by omega)]
        clear q hl hlv R2 S2
        have rev : ∀ {ds : List D} {vs : List V}, Rvs X.K φ1 I1 ds vs → Rvs X.K φ1 I1 ds.reverse vs.reverse := by
          intro ds
          induction ds with
          | nil => intro vs h; cases h; exact .nil
          | cons d ds ih =>
            intro vs h
            cases h with
            | cons h1 h2 =>
              rw [List.reverse_cons, List.reverse_cons]
              exact (ih h2).append (.cons h1 .nil)
        exact rev hv
  · rw [if_neg hl] at q
    exact q.elim
end
end PM
set_option Elab.async false
set_option linter.all false
set_option maxRecDepth 100000
set_option maxHeartbeats 2400000
namespace PM
open PySem PySem.Spec L2 PyProof.Rows
/-! ### try: body, except C as n: suite .. -/
def ECls.name : ECls → Str
  | .own C => C
  | .blt _ => Str.empty
/-- an exception that is held -/
def Exc.toD (c : Exc) : D := match c.fs with
  | none => .exn0 c.cls.name
  | some fs => .exn c.cls.name fs
/-- the name of an except clause goes -/
def unS (i : Nat) : SOut → SOut
  | .nx st => .nx (st.wipe [i])
  | .bk st => .bk (st.wipe [i])
  | .ct st => .ct (st.wipe [i])
  | .rt (.lo _) _ => .stuck
  | .rt r st => .rt r (st.wipe [i])
  | _ => .stuck
def noS : SOut → SOut
  | .exc _ _ => .stuck
  | o => o
abbrev Hnd := Str × Option Nat × MS
def runS (i : Option Nat) (m : MS) (c : Exc) : MS := fun st => match i with
  | none => noS (m st)
  | some i => unS i (m { st with env := st.env.set i (.sh c.toD) })
def runH (ys : List Str) : List Hnd → Exc → MS
  | [], c => fun st => .exc c st
  | (x, i, m) :: r, c => fun st => match c.cls with
    | .own Y => if ys.contains Y then (if Y = x then runS i m c st else runH ys r c st) else .stuck
    | .blt _ => .stuck
def mTry (body : MS) (ys : List Str) (l : List Hnd) : MS := fun st => match body st with
  | .exc c st' => runH ys l c st'
  | o => o
section
variable {K : PySem.W.Frag} {E : Ent} {W : WX} {σ : L2.St} {H : Hp} {st : State} {φ : List Addr} {I : Hp}
/-- an exception's dict is shared -/
theorem Rp.shareX (R : Rp K E σ H st φ I) {a : Addr} {us : List (Str × V)} (ha : H a = some (.xd us)) (h0 : E.H0 a = none) :
    ∃ I', Rp K E σ H st φ I' ∧ Ex I I' ∧ I' a = some (.xd us) := by
  cases q : I a with
  | some u =>
    have := R.ext a u q
    rw [ha] at this
    cases this
    exact ⟨I, R, Ex.refl I, q⟩
  | none =>
    have eI : Ex I (upd I a (.xd us)) := ex_upd q
    have no : ∀ {b c}, CellAt K φ I H b c → b ≠ a := fun {b c} ⟨o, e1, _, e3⟩ z => by
      rw [z, ha] at e1
      cases e1
      cases e3
    refine ⟨upd I a (.xd us), ⟨fun b u e => ?_, R.keep, R.there, fun b h n => ?_, fun b u e => eI _ _ (R.iold b u e), R.pre, R.fl.ii eI, R.pnew, R.nd, R.len, fun i c b h1 h2 => ?_, R.pin, R.elen, fun i d h => ?_, fun i c h => ?_, R.one⟩, eI, upd_same⟩
    · by_cases hb : b = a
      · rw [hb, upd_same] at e; cases e; rw [hb]; exact ha
      · rw [upd_ne hb] at e; exact R.ext b u e
    · by_cases hb : b = a
      · rw [hb]; exact .inl h0
      · rw [upd_ne hb] at h; exact R.inew b h n
    · rcases R.cells i c b h1 h2 with z | z
      · exact .inl z
      · exact .inr (z.mono List.prefix_rfl eI (by rw [upd_ne (no z)]; exact z.choose_spec.2.1) fun u e => e)
    · obtain ⟨v, h1, h2⟩ := R.sh i d h
      exact ⟨v, h1, h2.mono List.prefix_rfl eI⟩
    · obtain ⟨b, h1, h2, h3, h4⟩ := R.ow i c h
      exact ⟨b, h1, h2.mono List.prefix_rfl eI (by rw [upd_ne (no h2)]; exact h2.choose_spec.2.1) fun u e => e, h3, h4⟩
/-- a caught exception is a value -/
theorem Rp.caught (R : Rp K E σ H st φ I) {a : Addr} {c : Exc} {d : Option Addr} {Y : Str} (hc : c.cls = .own Y) (hx : Rx K E φ I H c.fs d) (ha : H a = none) :
    ∃ I', Rp K E σ (upd H a (exh a (.ref (He.ga K Y)) d)) st φ I' ∧ Ex I I' ∧ Rv K φ I' c.toD (.ref a) := by
  obtain ⟨R1, S1⟩ := R.laidS ha (exh a (.ref (He.ga K Y)) d)
  obtain ⟨cls, fs⟩ := c
  dsimp only at hc
  subst hc
  cases fs with
  | none =>
    cases (show d = none from hx)
    exact ⟨_, R1, S1.ii, .exn0 upd_same⟩
  | some fs =>
    obtain ⟨dx, us, rfl, e1, e2, e3, e4⟩ := hx
    have hne : dx ≠ a := fun z => by rw [z, ha] at e2; cases e2
    obtain ⟨I2, R2, x2, i2⟩ := R1.shareX (a := dx) (us := us) (by rw [upd_ne hne]; exact e2) e1
    exact ⟨I2, R2, S1.ii.trans x2, .exn (x2 _ _ upd_same) i2 e3 (e4.mono List.prefix_rfl (S1.ii.trans x2))⟩
theorem Ps.unS {i : Nat} {D' : Ends} {o : SOut} (h : Ps K E W φ I D' (PM.unS i o)) : Ps K E WF φ I { nx := fun σ' H' => D'.nx (σ'.set i none) H', rt := D'.rt, bk := fun σ' H' => D'.bk (σ'.set i none) H', ct := fun σ' H' => D'.ct (σ'.set i none) H' } o := by
  cases o with
  | nx st => exact fun σ' H' φ' I' g R => h (L2.wipe σ' [i]) H' φ' I' g R.wipe
  | bk st => exact fun σ' H' φ' I' g R => h (L2.wipe σ' [i]) H' φ' I' g R.wipe
  | ct st => exact fun σ' H' φ' I' g R => h (L2.wipe σ' [i]) H' φ' I' g R.wipe
  | exc c st => exact h.elim
  | stuck => exact h.elim
  | rt r st =>
    cases r with
    | lo j => exact h.elim
    | sh d => exact fun v σ' H' φ' I' g R hr => h v (L2.wipe σ' [i]) H' φ' I' g R.wipe hr
    | ow c => exact fun v σ' H' φ' I' g R ⟨a, e, h1, h2, h3, h4⟩ => h v (L2.wipe σ' [i]) H' φ' I' g R.wipe ⟨a, e, h1, h2, h3, fun j z => h4 j (wipe_owns z)⟩
theorem Ps.noS {D' : Ends} {o : SOut} (h : Ps K E W φ I D' (PM.noS o)) : Ps K E WF φ I D' o := by
  cases o with
  | exc c st => exact h.elim
  | nx st => exact h
  | bk st => exact h
  | ct st => exact h
  | stuck => exact h
  | rt r st => exact h
end
/-- the except clauses and their runs: ys the classes that may fly -/
inductive HsOk (X : Cx) (E : Ent) (ys : List Str) : List ExceptHandler → List Hnd → Prop
  | nil : HsOk X E ys [] []
  | only {x C : Str} {b₀ : Stmt} {suite : List Stmt} {np pos' : Pos} {hds : List ExceptHandler} {l : List Hnd} {m : MS} (hc : Names X x (.ref (He.ga X.K C))) (he : ∀ Y ∈ ys, PySem.W.exmOne X.K (.ref (He.ga X.K Y)) (.ref (He.ga X.K C)) = some (decide (Y = C)))
      (hsu : ∀ (a : Addr) (pn : List (Addr × Obj)), SSs (X.suite a pn) E WF (b₀ :: suite) m) (r : HsOk X E ys hds l) : HsOk X E ys (.ExceptHandler (some (.Name x np)) none (b₀ :: suite) pos' :: hds) ((C, none, m) :: l)
  | as {x C n : Str} {i : Nat} {b₀ : Stmt} {suite : List Stmt} {np pos' : Pos} {hds : List ExceptHandler} {l : List Hnd} {m : MS} (hi : X.N[i]? = some n) (hln : X.env.kindOf n = some .local) (hc : Names X x (.ref (He.ga X.K C))) (he : ∀ Y ∈ ys, PySem.W.exmOne X.K (.ref (He.ga X.K Y)) (.ref (He.ga X.K C)) = some (decide (Y = C)))
      (hsu : ∀ (a : Addr) (pn : List (Addr × Obj)), SSs (X.suite a pn) E WF (b₀ :: suite) m) (r : HsOk X E ys hds l) : HsOk X E ys (.ExceptHandler (some (.Name x np)) (some n) (b₀ :: suite) pos' :: hds) ((C, some i, m) :: l)
section
variable {X : Cx} {pins : List (Addr × Obj)} {σ : L2.St} {H : Hp} {s : Shared}
theorem inv_toSuite (I : Inv X pins σ H s) (a : Addr) : Inv (X.suite a (X.pn ++ pins)) [] σ H s :=
  ⟨I.ok.suite _ _, I.os, I.bare, I.base, I.loc, I.cell, I.free, I.freeC, fun p hp => I.pin p (by rw [List.append_nil] at hp; exact hp), I.hok, I.len⟩
theorem inv_ofSuite {a : Addr} {pn' : List (Addr × Obj)} (I : Inv (X.suite a (X.pn ++ pins)) pn' σ H s) (ok : X.Ok) : Inv X pins σ H s :=
  ⟨ok, I.os, I.bare, I.base, I.loc, I.cell, I.free, I.freeC, fun p hp => I.pin p (List.mem_append_left _ hp), I.hok, I.len⟩
variable {E : Ent} {W : WX} {ys : List Str} {body : List Stmt} {h₀ : ExceptHandler} {hds : List ExceptHandler} {l : List Hnd} {pos : Pos} {mb : MS}
theorem ss_try (hs : X.stack = X.env :: X.outer) (hf : X.env.frame = some X.env.locals) (hN : X.N.Nodup) (tk : Takes X W)
    (hb : ∀ (W' : WX) (pn : List (Addr × Obj)) (xe : Value → Shared → Prop), Takes (X.tr pn xe) W' → PassesOwn (model X.prog X.w) X.A X.env xe → SSs (X.tr pn xe) E W' body mb)
    (hh : HsOk X E ys (h₀ :: hds) l) : SS X E W (.Try body (h₀ :: hds) [] [] pos) (mTry mb ys l) := by
  refine ⟨fun pins s σ H D0 I ⟨st0, φ0, I0, R0, p0⟩ => ?_⟩
  have ok := I.ok
  have hfr : X.A.frames = some (X.env :: X.outer) := by rw [ok.frames, hs]
  obtain ⟨W', hW'⟩ : ∃ W' : WX, W' = fun cls d σ' H' => ∃ c st' φ' I', mb st0 = .exc c st' ∧ cls = c.cls.val X.K ∧ Grow φ0 I0 φ' I' ∧ Rp X.K E σ' H' st' φ' I' ∧ Rx X.K E φ' I' H' c.fs d ∧ Ps X.K E W φ0 I0 D0 (runH ys l c st') := ⟨_, rfl⟩
  have pb : Ps X.K E W' φ0 I0 D0 (mb st0) := by
    unfold mTry at p0
    cases e : mb st0 with
    | exc c st' =>
      rw [e] at p0
      intro d σ' H' φ' I' g R hx
      rw [hW']
      exact ⟨c, st', φ', I', e, rfl, g, R, hx, p0⟩
    | nx st' => rw [e] at p0; exact p0
    | bk st' => rw [e] at p0; exact p0
    | ct st' => rw [e] at p0; exact p0
    | rt r st' => rw [e] at p0; exact p0
    | stuck => rw [e] at p0; exact p0
  refine wpAny_Try_except ?_
  refine wpAny_mono ((hb W' (X.pn ++ pins) (fun e s₁ => wpAny (model X.prog X.w) X.A (noteFrame e X.env) (fun _ s₂ => wpAny (model X.prog X.w) X.A (setFlight e none) (fun _ s₃ =>
    wpAny (model X.prog X.w) X.A (handleBy e X.env (h₀ :: hds)) (SP X pins D0) X.xe s₃) X.xe s₂) X.xe s₁) (fun u s' xx => ?_) PassesOwn.looking).run [] s σ H D0 (I.toTry _) ⟨st0, φ0, I0, R0, pb⟩) (fun f s1 hsp => ?_) (fun e s1 he => he)
  · obtain ⟨a, B, sI, pins', σ', H', cls, d, rfl, J', nb, up, sky, na, os, ag, w⟩ := xx
    rw [hW'] at w
    obtain ⟨c, st', φ', I', _, ecls, g, R, hx, pr⟩ := w
    have J : Inv X pins σ' H' sI := J'.ofTry ok
    have sky' : Sky B (X.env :: X.outer) a (Zc cls d) X.env.locals s'.heap := by rw [← hs]; exact sky
    show wpAny (model X.prog X.w) X.A (noteFrame (.ref a) X.env) _ _ _
    refine Sky.land Zc.steady hfr hf sky' fun h3 fl3 up3 => ?_
    have J3 : Inv X pins σ' H' { s' with heap := h3 } := J.landed nb fl3.1 (up.trans up3) os ag
    obtain ⟨oe3, vs3, he3, hz3, hd3⟩ := fl3.there
    have Ba : B.get? a = none := fl3.2.1
    have nfr : a ∉ frs X.stack := fun hm => by
      rw [hs] at hm
      obtain ⟨_, o', e', hnf⟩ := fl3.2.2.1.mem hm
      rw [he3] at e'
      cases e'
      exact hnf _ hd3
    have gone : sI.heap.get? a = none := by
      cases e : sI.heap.get? a with
      | none => rfl
      | some o =>
        have := nb a o e nfr
        rw [Ba] at this
        cases this
    have LT : PySem.W.Looks (model X.prog X.w) h3 (typeOf (.ref a)) cls := fun A Q E s k q => wpAny_typeOf_ref (k _ _ he3) (by rw [hz3.1]; exact q)
    -- the exception, told of
    have track : ∀ h4 : Heap, PySem.HandSPX.FlyingZ B (X.env :: X.outer) a (Zc cls d) h4 → h3.UpToSlots h4 → Inv X pins σ' (upd H' a (exh a cls d)) { s' with heap := h4 } := fun h4 fl4 up4 => by
      obtain ⟨G, q1, q2⟩ := restrict h4 fun b => decide (b ≠ a)
      have gk : ∀ b, b ≠ a → G.get? b = h4.get? b := fun b hb => q1 b (decide_eq_true hb)
      have ga : G.get? a = none := q2 a (by simp)
      have ng : ∀ {b o}, B.get? b = some o → b ≠ a := fun {b o} e z => by rw [z, Ba] at e; cases e
      have nI : ∀ {b o}, sI.heap.get? b = some o → b ≠ a := fun {b o} e z => by rw [z, gone] at e; cases e
      obtain ⟨oe, vs, he, hz, hd⟩ := fl4.there
      have J4 : Inv X pins σ' H' { s' with heap := G } := J.landed nb (s' := { s' with heap := G }) (fun b o e => (gk b (ng e)).trans (fl4.1 b o e)) (fun b o e hb => by
        obtain ⟨sl, z⟩ := ((up.trans up3).trans up4) b o e hb
        exact ⟨sl, (gk b (nI e)).trans z⟩) os ag
      refine J4.laidN (h' := h4) (t' := s'.toks) (fun b o e => ?_) ga na ⟨⟨oe, vs, he, hz, hd⟩, ⟨oe, he⟩, fun _ _ ⟨o, v, q, r⟩ k => ⟨o, v, k o q, r⟩⟩
      by_cases hb : b = a
      · rw [hb] at e
        exact absurd (ga.symm.trans e) (by simp)
      · exact (gk b hb).symm.trans e
    have S3 := inv_toSuite J3 a
    have fall : Ps X.K E W φ0 I0 D0 (.exc c st') → wpAny (model X.prog X.w) X.A (handleBy (.ref a) X.env []) (SP X pins D0) X.xe { s' with heap := h3 } := fun w => by
      refine wpAny_handleBy_nil ?_
      obtain ⟨_, _, _, oe, vs, T, oT, ts', he, hz, hd, h1, hr⟩ := id fl3
      unfold PySem.passOn
      refine wpAny_bind (wpAny_field he hd h1 ?_)
      rw [if_neg (show ¬ ((Value.ref T == Value.none) = true) from by simp)]
      have fin : wpAny (model X.prog X.w) X.A (setFlight (.ref a) X.env.frame) (fun _ s4 => wpAny (model X.prog X.w) X.A (throw (.ref a) : Sem Flow) (SP X pins D0) X.xe s4) X.xe { s' with heap := h3 } := by
        rw [hf]
        refine PySem.HandSPX.setFlight_upZ fl3 fun h4 hh4 up4 => wpAny_throw (tk _ _ ⟨a, B, sI, pins, σ', H', cls, d, rfl, J, nb, (up.trans up3).trans up4, .inr (.inr (by rw [hs]; exact hh4)), na, os, ag, ?_⟩)
        rw [ecls]
        exact w d σ' H' φ' I' g R hx
      first
        | exact wpAny_bind (wpAny_pure (wpAny_bind fin))
        | exact wpAny_bind fin
    have test : ∀ {x C : Str} {np : Pos} {Q : Value → Shared → Prop} {E1 : Value → Shared → Prop}, Names X x (.ref (He.ga X.K C)) → Q (.ref (He.ga X.K C)) { s' with heap := h3 } → wpAny (model X.prog X.w) (X.A.mark (some (.ref a))) (eval (.Name x np) X.env) Q E1 { s' with heap := h3 } := fun {x C np Q E1} hc q => by
      obtain ⟨hg, hdbg, hm | ⟨hm, hv, hnn⟩⟩ := hc
      · exact ld_glob (X := X.suite a (X.pn ++ pins)) S3 hg hm q hdbg
      · exact ld_blt (X := X.suite a (X.pn ++ pins)) S3 hg hm hv q hnn hdbg
    have picked : ∀ {x C : Str} {r : List Hnd} {i : Option Nat} {m : MS}, Ps X.K E W φ0 I0 D0 (runH ys ((C, i, m) :: r) c st') → ∃ Y, c.cls = .own Y ∧ Y ∈ ys ∧ ((Y = C ∧ Ps X.K E W φ0 I0 D0 (runS i m c st')) ∨ (Y ≠ C ∧ Ps X.K E W φ0 I0 D0 (runH ys r c st'))) := by
      intro x C r i m w
      unfold runH at w
      cases eY : c.cls with
      | blt n => rw [eY] at w; exact w.elim
      | own Y =>
        rw [eY] at w
        simp only at w
        by_cases hy : ys.contains Y = true
        · rw [if_pos hy] at w
          refine ⟨Y, rfl, by simpa using hy, ?_⟩
          by_cases hC : Y = C
          · rw [if_pos hC] at w
            exact .inl ⟨hC, w⟩
          · rw [if_neg hC] at w
            exact .inr ⟨hC, w⟩
        · rw [if_neg hy] at w
          exact w.elim
    have go : ∀ {hds' : List ExceptHandler} {l' : List Hnd}, HsOk X E ys hds' l' → Ps X.K E W φ0 I0 D0 (runH ys l' c st') → wpAny (model X.prog X.w) X.A (handleBy (.ref a) X.env hds') (SP X pins D0) X.xe { s' with heap := h3 } := by
      intro hds' l' hk
      induction hk with
      | nil => exact fall
      | @only x C b₀ suite np pos' hds2 l2 m hc he hsu r ih =>
        intro w
        obtain ⟨Y, eY, hy, w⟩ := picked (x := x) w
        have hb1 := he Y hy
        rw [eY] at ecls
        have LM := PySem.W.exm_one (M := model X.prog X.w) (J3.kIn) LT (by rw [ecls]; exact hb1)
        refine wpAny_handleBy_cons (codeAny_handlers_test ?_) (by intro q; cases q)
        refine test hc (LM.here ?_)
        rcases w with ⟨hC, w⟩ | ⟨hC, w⟩
        · rw [decide_eq_true hC]
          refine codeAny_handlers_suite ?_
          refine PySem.HandSPX.lands_againZ fl3 fun h4 fl4 up4 => ?_
          obtain ⟨I2, R2, x2, rv⟩ := R.caught eY hx na
          have e2 : cls = .ref (He.ga X.K Y) := ecls
          have S4 := inv_toSuite (track h4 fl4 up4) a
          rw [e2] at S4
          have w2 : Ps X.K E WF φ' I2 D0 (m st') := Ps.grow (g.trans ⟨List.prefix_rfl, x2⟩) (Ps.noS w)
          refine wpAny_mono ((hsu a (X.pn ++ pins)).run [] _ _ _ D0 S4 ⟨st', φ', I2, R2, w2⟩) (fun f s6 hsp => ?_) (fun _ _ z => False.elim z)
          cases f with
          | next =>
            obtain ⟨σ6, H6, S6, q6⟩ := hsp
            exact ⟨_, _, inv_ofSuite S6 ok, q6⟩
          | brk =>
            obtain ⟨σ6, H6, S6, q6⟩ := hsp
            exact ⟨_, _, inv_ofSuite S6 ok, q6⟩
          | cont =>
            obtain ⟨σ6, H6, S6, q6⟩ := hsp
            exact ⟨_, _, inv_ofSuite S6 ok, q6⟩
          | ret u =>
            obtain ⟨v6, σ6, H6, S6, r6, q6⟩ := hsp
            exact ⟨_, _, _, inv_ofSuite S6 ok, r6, q6⟩
        · rw [decide_eq_false hC]
          show wpAny _ X.A (handleBy (.ref a) X.env hds2) _ _ _
          exact ih w
      | @as x C n i b₀ suite np pos' hds2 l2 m hi hln hc he hsu r ih =>
        intro w
        obtain ⟨Y, eY, hy, w⟩ := picked (x := x) w
        have hb1 := he Y hy
        rw [eY] at ecls
        have LM := PySem.W.exm_one (M := model X.prog X.w) (J3.kIn) LT (by rw [ecls]; exact hb1)
        refine wpAny_handleBy_cons (codeAny_handlers_test ?_) (by intro q; cases q)
        refine test hc (LM.here ?_)
        rcases w with ⟨hC, w⟩ | ⟨hC, w⟩
        · rw [decide_eq_true hC]
          refine codeAny_handlers_suite_as ?_
          refine PySem.HandSPX.lands_againZ fl3 fun h4 fl4 up4 => ?_
          obtain ⟨I2, R2, x2, rv⟩ := R.caught eY hx na
          have e2 : cls = .ref (He.ga X.K Y) := ecls
          have S4 := inv_toSuite (track h4 fl4 up4) a
          rw [e2] at S4
          refine store_ok (X := X.suite a (X.pn ++ pins)) (v := .ref a) S4 hN hi (.inl hln) rfl (fun s5 S5 => ?_) (.inr hln)
          have w2 := Ps.grow (g.trans ⟨List.prefix_rfl, x2⟩) (Ps.unS (show Ps X.K E W φ0 I0 D0 (unS i (m { st' with env := st'.env.set i (.sh c.toD) })) from w))
          refine wpAny_mono ((hsu a (X.pn ++ pins)).run [] _ _ _ _ S5 ⟨_, φ', I2, R2.setR (r := .sh c.toD) rv, w2⟩) (fun f s6 hsp => ?_) (fun _ _ z => False.elim z)
          have end_ : ∀ {σ6 : L2.St} {H6 : Hp} {Q : Shared → Prop}, Inv (X.suite a (X.pn ++ pins)) [] σ6 H6 s6 → (∀ s7, Inv X pins (σ6.set i none) H6 s7 → Q s7) →
              wpAny (model X.prog X.w) X.A (do bindName X.env n .none; unbindBehindTheSuite X.env n pos') (fun _ s7 => Q s7) X.xe s6 := fun {σ6 H6 Q} S6 hq => gone_ok (inv_ofSuite S6 ok) hN hi hln hq
          cases f with
          | next =>
            obtain ⟨σ6, H6, S6, q6⟩ := hsp
            exact end_ S6 fun s7 J7 => ⟨_, _, J7, q6⟩
          | brk =>
            obtain ⟨σ6, H6, S6, q6⟩ := hsp
            exact end_ S6 fun s7 J7 => ⟨_, _, J7, q6⟩
          | cont =>
            obtain ⟨σ6, H6, S6, q6⟩ := hsp
            exact end_ S6 fun s7 J7 => ⟨_, _, J7, q6⟩
          | ret u =>
            obtain ⟨v6, σ6, H6, S6, r6, q6⟩ := hsp
            exact end_ S6 fun s7 J7 => ⟨_, _, _, J7, r6, q6⟩
        · rw [decide_eq_false hC]
          show wpAny _ X.A (handleBy (.ref a) X.env hds2) _ _ _
          exact ih w
    exact go hh pr
  · cases f with
    | next =>
      obtain ⟨σ', H', J', q⟩ := hsp
      exact wpAny_execs_nil ⟨σ', H', J'.ofTry ok, q⟩
    | brk =>
      obtain ⟨σ', H', J', q⟩ := hsp
      exact ⟨σ', H', J'.ofTry ok, q⟩
    | cont =>
      obtain ⟨σ', H', J', q⟩ := hsp
      exact ⟨σ', H', J'.ofTry ok, q⟩
    | ret u =>
      obtain ⟨v, σ', H', J', r, q⟩ := hsp
      exact ⟨v, σ', H', J'.ofTry ok, r, q⟩
end
end PM
set_option Elab.async false
set_option linter.all false
set_option maxRecDepth 100000
set_option maxHeartbeats 2400000
namespace PM
open PySem PySem.Spec L2
/-! ### repr -/
def keyP : Key → PyData
  | .inl i => .int i
  | .inr s => .str s
mutual
def D.pyd : D → Option PyData
  | .non => some .none
  | .bl b => some (.bool b)
  | .int i => some (.int i)
  | .str s => some (.str s)
  | .tup ds => (D.pyds ds).map .tuple
  | .tpF ds => (D.pyds ds).map .tuple
  | .lst ds => (D.pyds ds).map .list
  | .lsF ds => (D.pyds ds).map .list
  | .dct kvs => (D.pydk kvs).map .dict
  | _ => none
def D.pyds : List D → Option (List PyData)
  | [] => some []
  | d :: ds => (D.pyd d).bind fun p => (D.pyds ds).map fun ps => p :: ps
def D.pydk : List (Key × D) → Option (List (PyData × PyData))
  | [] => some []
  | (k, d) :: r => (D.pyd d).bind fun p => (D.pydk r).map fun ps => (keyP k, p) :: ps
end
theorem pydk_eq : ∀ (kvs : List (Key × D)), D.pydk kvs = (D.pyds (kvs.map (·.2))).map fun ps => (kvs.map fun kv => keyP kv.1).zip ps
  | [] => rfl
  | (k, d) :: r => by
    simp only [D.pydk, List.map_cons, D.pyds, pydk_eq r]
    cases D.pyd d with
    | none => rfl
    | some p =>
      cases D.pyds (r.map (·.2)) with
      | none => rfl
      | some ps => rfl
/-- the loaded modules' dict stands in the part of the heap -/
def sysB (K : PySem.W.Frag) : Bool := match K.lookup sysModules with
  | some ⟨_, _, .dict _ _, _⟩ => true
  | _ => false
theorem sysB_ok {K : PySem.W.Frag} {h : Heap} (e : sysB K = true) (k : K.In h) : ∃ o es n, h.get? sysModules = some o ∧ o.data = .dict es n := by
  unfold sysB at e
  split at e
  · rename_i c d es n s q
    exact ⟨_, es, n, k _ _ q, rfl⟩
  · cases e
section
variable {X : Cx} {pins : List (Addr × Obj)} {σ : L2.St} {H : Hp} {s : Shared}
theorem keys_read {h : Heap} {w : World} {P : Program} : ∀ {es : List DictEntry} {vs : List (Key × Value)}, Pairs (mixKind P w) es vs → ReadsAll h (es.map (·.key)) (vs.map fun kv => keyP kv.1) [] ∧ es.map (·.val) = vs.map (·.2)
  | _, _, .nil => ⟨.nil, rfl⟩
  | _, _, .cons h1 h2 h3 => by
    obtain ⟨i1, i2⟩ := keys_read (h := h) h3
    refine ⟨?_, by rw [List.map_cons, List.map_cons, h2, i2]⟩
    rcases keyIs_shape h1 with ⟨i, t, e1, e2⟩ | ⟨x, t, e1, e2⟩
    · rw [List.map_cons, List.map_cons, e1, e2]
      exact ReadsAll.cons (as := []) (bs := []) (.int i t) i1
    · rw [List.map_cons, List.map_cons, e1, e2]
      exact ReadsAll.cons (as := []) (bs := []) (.str x t) i1
theorem kv_keys : ∀ {us : List (Key × V)} {vs : List (Key × Value)}, KV us vs → us.map (·.1) = vs.map (·.1) ∧ Vals (us.map (·.2)) (vs.map (·.2))
  | _, _, .nil => ⟨rfl, .nil⟩
  | _, _, .cons ⟨h1, h2⟩ r => by
    obtain ⟨i1, i2⟩ := kv_keys r
    exact ⟨by rw [List.map_cons, List.map_cons, h1, i1], .cons h2 i2⟩
theorem pyds_len : ∀ {ds : List D} {ps : List PyData}, D.pyds ds = some ps → ps.length = ds.length
  | [], _, e => by simp only [D.pyds, Option.some.injEq] at e; subst e; rfl
  | d :: ds, _, e => by
    simp only [D.pyds] at e
    obtain ⟨p, _, e2⟩ := Option.bind_eq_some_iff.mp e
    obtain ⟨qs, e3, rfl⟩ := Option.map_eq_some_iff.mp e2
    rw [List.length_cons, List.length_cons, pyds_len e3]
theorem reads_of {φ : List Addr} {J : Hp} (hs : sysB X.K = true) (I : Inv X pins σ H s) (hx : Ex J H) {d : D} {v : V} (h : Rv X.K φ J d v) : ∀ (p : PyData), D.pyd d = some p → ∀ (u : Value), RelV v u → ∃ as, Reads s.heap u p as ∧ sysModules ∉ as := by
  obtain ⟨osys, esys, nsys, hsys, dsys⟩ := sysB_ok hs I.kIn
  have nsq : ∀ {a : Addr} {o : Obj} {vs : Array Value} {n : Nat}, s.heap.get? a = some o → o.data = .seq vs n → a ≠ sysModules := fun {a o vs n} h1 h2 e => by
    rw [e, hsys] at h1
    cases h1
    rw [dsys] at h2
    cases h2
  have lstR : ∀ {a : Addr} {xs : List V} {ds : List D} {p : PyData} {u : Value}, SqL X.K H a xs → (∀ (ps : List PyData), D.pyds ds = some ps → ∀ (us : List Value), Vals xs us → ∃ as, ReadsAll s.heap us ps as ∧ sysModules ∉ as) → (D.pyds ds).map PyData.list = some p → RelV (.ref a) u → ∃ as, Reads s.heap u p as ∧ sysModules ∉ as := by
    intro a xs ds p u hq ih e r
    obtain ⟨ps, e1, rfl⟩ := Option.map_eq_some_iff.mp e
    obtain rfl : u = Value.ref a := r
    obtain ⟨its, rv, ⟨o, n, ho, hc, _, hd⟩, _⟩ := I.list hq
    obtain ⟨as, h1, h2⟩ := ih _ e1 _ rv
    exact ⟨_, Reads.list ho hc hd h1, fun z => (List.mem_cons.mp z).elim (fun z => nsq ho hd z.symm) h2⟩
  have tupR : ∀ {a : Addr} {xs : List V} {ds : List D} {p : PyData} {u : Value}, SqT X.K H a xs → (∀ (ps : List PyData), D.pyds ds = some ps → ∀ (us : List Value), Vals xs us → ∃ as, ReadsAll s.heap us ps as ∧ sysModules ∉ as) → (D.pyds ds).map PyData.tuple = some p → RelV (.ref a) u → ∃ as, Reads s.heap u p as ∧ sysModules ∉ as := by
    intro a xs ds p u hq ih e r
    obtain ⟨ps, e1, rfl⟩ := Option.map_eq_some_iff.mp e
    obtain rfl : u = Value.ref a := r
    obtain ⟨its, rv, ⟨o, ho, hc, n, hd⟩, _⟩ := I.tuple hq
    obtain ⟨as, h1, h2⟩ := ih _ e1 _ rv
    exact ⟨_, Reads.tuple ho hc hd h1, h2⟩
  refine Rv.rec (motive_1 := fun d v _ => ∀ (p : PyData), D.pyd d = some p → ∀ (u : Value), RelV v u → ∃ as, Reads s.heap u p as ∧ sysModules ∉ as) (motive_2 := fun ds vs _ => ∀ (ps : List PyData), D.pyds ds = some ps → ∀ (us : List Value), Vals vs us → ∃ as, ReadsAll s.heap us ps as ∧ sysModules ∉ as)
    ?_ ?_ ?_ ?_ ?_ ?_ ?_ ?_ ?_ ?_ ?_ ?_ ?_ ?_ ?_ ?_ ?_ ?_ h
  · intro p e u r; simp only [D.pyd, Option.some.injEq] at e; subst e; cases r; exact ⟨_, .none, by simp⟩
  · intro b p e u r; simp only [D.pyd, Option.some.injEq] at e; subst e; cases r; exact ⟨_, .bool b, by simp⟩
  · intro i p e u r; simp only [D.pyd, Option.some.injEq] at e; subst e; obtain ⟨t, rfl⟩ := r; exact ⟨_, .int i t, by simp⟩
  · intro z p e u r; simp only [D.pyd, Option.some.injEq] at e; subst e; obtain ⟨t, rfl⟩ := r; exact ⟨_, .str z t, by simp⟩
  · intro a vs ds h1 _ ih p e u r
    exact tupR (.inl (.inl (hx _ _ h1))) ih (by simpa only [D.pyd] using e) r
  · intro a vs ds h1 _ ih p e u r
    exact tupR (sqT_mono hx h1) ih (by simpa only [D.pyd] using e) r
  · intro a vs ds h1 _ ih p e u r
    exact lstR (.inl (.inl (hx _ _ h1))) ih (by simpa only [D.pyd] using e) r
  · intro a vs ds h1 _ ih p e u r
    exact lstR (sqL_mono hx h1) ih (by simpa only [D.pyd] using e) r
  · intro a us kvs od h1 h2 _ ih p e u r
    simp only [D.pyd, pydk_eq] at e
    obtain ⟨qs, e1, rfl⟩ := Option.map_eq_some_iff.mp e
    obtain ⟨ps, e2, rfl⟩ := Option.map_eq_some_iff.mp e1
    obtain rfl : u = Value.ref a := r
    obtain ⟨_, na, vs, kv, o, es, ep, ho, hex, hd, hkeys, hp, _⟩ := dk_rd I.hok (.inr ⟨_, hx _ _ h1⟩)
    obtain ⟨k1, k2⟩ := keys_read (h := s.heap) hp
    obtain ⟨k3, k4⟩ := kv_keys kv
    obtain ⟨as, h3, h4⟩ := ih _ e2 _ k4
    have ek : vs.map (fun kv => keyP kv.1) = kvs.map fun kv => keyP kv.1 := by
      have : vs.map (·.1) = kvs.map (·.1) := k3.symm.trans h2
      calc vs.map (fun kv => keyP kv.1) = (vs.map (·.1)).map keyP := by rw [List.map_map]; rfl
        _ = (kvs.map (·.1)).map keyP := by rw [this]
        _ = _ := by rw [List.map_map]; rfl
    have hl := pyds_len e2
    simp only [List.length_map] at hl
    refine ⟨_, Reads.dict (kvs := (kvs.map fun kv => keyP kv.1).zip ps) ho hex.1 hd (by rw [List.map_fst_zip (by simp; omega), ← ek]; exact k1) (by rw [List.map_snd_zip (by simp; omega), k2]; exact h3), ?_⟩
    intro z
    rw [List.cons_append, List.nil_append] at z
    rcases List.mem_cons.mp z with z | z
    · rw [← z] at na
      simp at na
    · exact h4 z
  · intro a us kvs od h1 h2 _ ih p e; simp [D.pyd] at e
  · intro n a h1 p e; simp [D.pyd] at e
  · intro C a dx us fs h1 h2 _ ih p e; simp [D.pyd] at e
  · intro C a h1 p e; simp [D.pyd] at e
  · intro C a dx us fs h1 h2 h3 _ ih p e; simp [D.pyd] at e
  · intro C p e; simp [D.pyd] at e
  · intro v p e; simp [D.pyd] at e
  · intro ps e us r; simp only [D.pyds, Option.some.injEq] at e; subst e; cases r; exact ⟨_, .nil, by simp⟩
  · intro d v ds vs _ _ ih1 ih2 ps e us r
    simp only [D.pyds] at e
    obtain ⟨p, e1, e2⟩ := Option.bind_eq_some_iff.mp e
    obtain ⟨qs, e3, rfl⟩ := Option.map_eq_some_iff.mp e2
    cases r with
    | cons r1 r2 =>
      obtain ⟨as, a1, a2⟩ := ih1 _ e1 _ r1
      obtain ⟨bs, b1, b2⟩ := ih2 _ e3 _ r2
      exact ⟨_, .cons a1 b1, fun z => (List.mem_append.mp z).elim a2 b2⟩
end
/-- repr(x) -/
def opRepr (x : D) : Option RV := x.pyd.bind fun p => if p.showable && (decide (p.depth ≤ 64) && decide (p.shown.length ≤ lim)) then some (.sh (.str p.shown)) else none
section
variable {X : Cx} {E : Ent}
theorem seen_pyd {pins : List (Addr × Obj)} {σ : L2.St} {H : Hp} {s : Shared} {φ : List Addr} {J : Hp} (hs : sysB X.K = true) (I : Inv X pins σ H s) (hx : Ex J H) {d : D} {v : V} (h : Seen X.K φ J H d v) {p : PyData} (e : D.pyd d = some p) {u : Value} (r : RelV v u) : ∃ as, Reads s.heap u p as ∧ sysModules ∉ as := by
  rcases h with h | ⟨a, c, rfl, rfl, o, h1, h2, h3⟩
  · exact reads_of hs I hx h p e u r
  · -- a thing of one's own: shared for the look
    have hx2 : ∀ u : HO, Ex (upd J a u) (upd H a u) := fun u b w q => by
      by_cases hb : b = a
      · rw [hb, upd_same] at q ⊢; exact q
      · rw [upd_ne hb] at q ⊢; exact hx b w q
    have go : ∀ od, Inv X pins σ (upd H a (lk od o)) s → ∃ as, Reads s.heap u p as ∧ sysModules ∉ as := fun od I2 =>
      reads_of hs I2 (hx2 _) ((h3.mono List.prefix_rfl (ex_upd h2)).frz (od := od) upd_same) p e u r
    cases h3 with
    | ls _ => exact go default (by rw [show lk default (.lst _) = .lst _ from rfl, upd_self h1]; exact I)
    | dc _ _ => obtain ⟨od, I2⟩ := I.lock h1 True.intro; exact go od I2
    | dt _ _ => obtain ⟨od, I2⟩ := I.lock h1 True.intro; exact go od I2
    | ins _ _ => exact go default (by rw [show lk default (.ins _ _ _) = .ins _ _ _ from rfl, upd_self h1]; exact I)
    | tab _ _ => exact go default (by rw [show lk default (.tbl _) = .tbl _ from rfl, upd_self h1]; exact I)
theorem cl_repr (hs : sysB X.K = true) (hg : X.A.guards = some []) (hu : X.A.units + 70 < cLine) : CallR X (.builtin "repr") (rdC1 X.K E opRepr) := fun pins s σ H xs us Q I rv ⟨v, e0, σ', st, φ, J, x, r, R, hx, e, q⟩ => by
  subst e0
  obtain ⟨u, rfl, r1⟩ := vals1 rv
  unfold opRepr at e
  obtain ⟨p, e1, e2⟩ := Option.bind_eq_some_iff.mp e
  by_cases c : (p.showable && (decide (p.depth ≤ 64) && decide (p.shown.length ≤ lim))) = true
  · rw [if_pos c] at e2
    cases e2
    obtain ⟨c1, c2⟩ := Bool.and_eq_true_iff.mp c
    obtain ⟨c2, c3⟩ := Bool.and_eq_true_iff.mp c2
    have c2 := of_decide_eq_true c2
    have c3 := Nat.le_trans (of_decide_eq_true c3) lim_le
    obtain ⟨as, hr, hsm⟩ := seen_pyd hs I R.ext hx e1 r1
    have fin : ∀ (h' : Heap) (t tk : Tok), (∀ b o, s.heap.get? b = some o → h'.get? b = some o) → EP X pins σ Q (.str p.shown t) { s with heap := h', toks := tk } := fun h' t tk k =>
      ⟨.str p.shown, H, I.kept (t' := tk) k, ⟨t, rfl⟩, q (.str p.shown) H J Stp.refl R (.str _) fun _ _ z => by cases z⟩
    cases hr with
    | none => exact PySem.P.repr_of_none (fin s.heap _ _ fun _ _ z => z)
    | bool b =>
      have z : (PyData.bool b).shown = (if b then "True" else "False" : Str) := by simp only [PyData.shown]
      rw [z] at fin
      refine PySem.P.repr_of_bool ?_
      cases b <;> exact fin s.heap _ _ fun _ _ z => z
    | int i t =>
      have z : (PyData.int i).shown = ((toString i : String) : Str) := by simp only [PyData.shown]
      rw [z] at fin
      simp only [PyData.showable, decide_eq_true_eq] at c1
      exact PySem.P.repr_of_int c1 (fin s.heap _ _ fun _ _ z => z)
    | str z t =>
      have z : (PyData.str z).shown = reprText z := by simp only [PyData.shown]
      rw [z] at fin c3
      exact PySem.P.repr_of_str (fin s.heap _ _ fun _ _ z => z) c3
    | list h1 h2 h3 h4 => exact repr_of_reads' (.list h1 h2 h3 h4) c1 (fun _ => hsm) hg (by omega) (fun _ _ z => z) (fun h' u tk k => fin h' u tk k) c3
    | tuple h1 h2 h3 h4 => exact repr_of_reads' (.tuple h1 h2 h3 h4) c1 (fun _ => hsm) hg (by omega) (fun _ _ z => z) (fun h' u tk k => fin h' u tk k) c3
    | dict h1 h2 h3 h4 h5 => exact repr_of_reads' (.dict h1 h2 h3 h4 h5) c1 (fun _ => hsm) hg (by omega) (fun _ _ z => z) (fun h' u tk k => fin h' u tk k) c3
  · rw [if_neg c] at e2
    cases e2
end
/-! ### e.f, e an instance or a caught exception -/
def xthing : RV → Option (Str × List (Str × D))
  | .sh (.exn C fs) => some (C, fs)
  | _ => none
def mFldX (Xs : List Str) (f : Str) (a : M RV) : M RV := a.bor.bind fun r st => match xthing r with
  | some (C, fs) => if Xs.contains C then (match fs.lookup f with
    | some d => .ok (.sh d) st
    | none => .stuck) else .stuck
  | none => .stuck
def xfB (C f : Str) (K : PySem.W.Frag) : Bool := L2.xfB K (He.ga K C) && decide (PySem.W.findIn K (.ref (He.ga K C)) f = some none)
section
variable {X : Cx} {E : Ent} {W : WX} {pos : Pos} {e : Expr} {m : M RV} {f : Str} {Xs : List Str}
theorem sr_fldX (hc : ∀ C ∈ Xs, PM.xfB C f X.K = true) (h : SR X E W e m) (hb : attributeBase e f X.env (eval e X.env) = eval e X.env := by rfl) : SR X E W (.Attribute e f pos) (mFldX Xs f m) := ⟨fun pins s σ H Q I ⟨st, φ, J, R, p⟩ => by
  refine attr_of hb (thn ((sr_bor h).run pins s σ H (fun v H1 => ∃ (a C dd : Addr) (us : List (Str × V)) (w : V), v = .ref a ∧ XfC X.K C ∧ PySem.W.findIn X.K (.ref C) f = some none ∧ H1 a = some (exh a (.ref C) (some dd)) ∧ H1 dd = some (.xd us) ∧ us.lookup f = some w ∧ Q w H1) I ?_) fun u s1 ⟨x, H1, I1, rx, a, C, dd, us, w, ex, T, hno, ea, ed, l, q⟩ => ?_)
  · refine ⟨st, φ, J, R, (Po.bind p).imp fun r H1 st1 φ1 I1 S1 R1 p1 v hv hnw => ?_⟩
    clear hnw
    cases r with
    | ow c => exact p1.elim
    | lo i => exact p1.elim
    | sh d =>
      cases d <;> try exact p1.elim
      rename_i C fs
      simp only [xthing] at p1
      by_cases hC : Xs.contains C = true
      · rw [if_pos hC] at p1
        cases ql : fs.lookup f with
        | none => rw [ql] at p1; exact p1.elim
        | some d =>
          rw [ql] at p1
          cases (show Rv X.K φ1 I1 (.exn C fs) v from hv) with
          | exn e1 e2 e3 e4 =>
            obtain ⟨w, g1, g2⟩ := lookup_rel e3 e4 ql
            obtain ⟨c1, c2⟩ := Bool.and_eq_true_iff.mp (hc C (by simpa using hC))
            exact ⟨_, _, _, _, w, rfl, xfB_ok c1, of_decide_eq_true c2, R1.ext _ _ e1, R1.ext _ _ e2, g1, p1 H1 φ1 I1 Stp.refl R1 w g2 Nw.sh⟩
      · rw [if_neg hC] at p1
        exact p1.elim
  · subst ex
    obtain rfl : u = Value.ref a := rx
    have x1 : ObjOk X.prog X.w H1 s1.heap a (exh a (.ref C) (some dd)) := I1.hok a _ ea
    obtain ⟨⟨oe, vs, ha, hz, hd⟩, _, _⟩ := x1
    have x2 : ObjOk X.prog X.w H1 s1.heap dd (.xd us) := I1.hok dd _ ed
    obtain ⟨mA, hns, hr⟩ := x2
    obtain ⟨od, ho, hl⟩ := lookIn_ns hns
    obtain ⟨u, hu, ru⟩ := RelO.some_of (v := w) (o := mA f) (by rw [← l]; exact hr f)
    have J : PySem.W.InstAt s1.heap a oe C (some od) := ⟨ha, hz.1, by unfold PySem.W.notCls; rw [hd] <;> rfl, by rw [hz.2]; exact ho⟩
    exact PySem.HandSPX.exc_get I1.kIn J T.ga T.gg T.exC (PySem.W.findObj_own T.hdC hno rfl (by rw [hl, hu])) (handed_of ru) ⟨w, H1, I1.tok _, ru, q⟩⟩
end
end PM
set_option Elab.async false
set_option linter.all false
set_option maxRecDepth 100000
set_option maxHeartbeats 2400000
/-! ### isinstance of a caught exception -/
namespace PySem.W
open PySem PySem.Spec PySem.Calls PyProof.Rows
section
variable {prog : Program} {w : World} {A : Around} {E : Value → Shared → Prop} {s : Shared} {K : Frag} {x D : Addr} {ox : Obj} {od : Option Obj}
theorem findObj_dataX {C : Addr} {name : Str} {a g : Value} (hc : (clsIn K C).isSome = true) (ha : findIn K (.ref C) name = some (some a)) (hg : specialIn K a "__get__" = some (some g)) (ht : takesIn K a = some true) : findObj K C od name = some (.bind g a) := by
  cases od with
  | none => exact findObj_dataN hc ha hg ht
  | some o => exact findObj_data hc ha hg ht
theorem xkin_class {Q : Option Value → Shared → Prop} (T : L2.ExcC K D) (X : K.In s.heap) (I : InstAt s.heap x ox D od) (h : Q (some (.ref D)) { s with toks := s.toks + 1 }) : wpAny (model prog w) A (getAttr? (.ref x) "__class__") Q E s := by
  have hf : findObj K D od "__class__" = some (.bind (.builtin "getset_descriptor.__get__") (.builtin "object.__class__")) := findObj_dataX (by obtain ⟨cd, hc, _⟩ := any_some T.hd; rw [hc]; rfl) T.ha T.hn T.ht
  obtain ⟨hp, g, d, t, os⟩ := s
  have L0 := I.type (M := model prog w)
  have L1 := looks_findIn (M := model prog w) X T.hg
  have L2' := looks_findIn (M := model prog w) X T.hk
  have L3 := looks_find (M := model prog w) X I hf
  have sub : Looks (model prog w) hp (isInstance (.ref x) (.type "BaseException")) true := L0.andThen (looks_subIn X T.hs)
  have b0 : (false && onTheHeap (Value.builtin "BaseException.__getattribute__")) = false := rfl
  have b2 : (Value.builtin "BaseException.__getattribute__" == Value.builtin "object.__getattribute__") = false := by decide +kernel
  have b1 : (onTheHeap (Value.ref D) && Value.builtin "BaseException.__getattribute__" == Value.builtin "object.__getattribute__") = false := by rw [b2]; rfl
  unfold getAttr? getAttrBy? getAttrBy
  refine wpAny_bind (wpAny_mkText (wpAny_bind (wpAny_attempt (wpAny_holding (wpAny_bind (L0.at (wpAny_bind (L1.at ?_))))))))
  show wpAny _ _ (if (onTheHeap (Value.ref D) && Value.builtin "BaseException.__getattribute__" == Value.builtin "object.__getattribute__") = true then _ else _) _ _ _
  rw [b1, if_neg Bool.false_ne_true]
  unfold getAttrByItsOwn hookBefore
  refine wpAny_bind ?_
  rw [if_pos (show onTheHeap (Value.ref D) = true from rfl)]
  refine L2'.at (wpAny_bind (wpAny_attempt (wpAny_holding ?_)))
  unfold callGetattribute
  rw [b0, if_neg Bool.false_ne_true]
  unfold boundAndCalled
  rw [PySem.F.excAttr_ValueError.ga.bind (.ref x)]
  refine wpAny_bind (wpAny_pure ?_)
  show wpAny _ _ (call (.builtin "BaseException.__getattribute__") [.ref x, .str "__class__" t]) _ _ _
  refine wpAny_call (codeAny_call_builtin PySem.F.excAttr_ValueError.ga.plain PySem.F.entry_bexc_ga ?_)
  refine @check_slot (model prog w) _ _ ⟨hp, g, d, t + 1, os⟩ "BaseException.__getattribute__" "BaseException" "__getattribute__" (.ref x) [.str "__class__" t] [] _ (by decide +kernel) (by decide +kernel) sub (PySem.F.args_bexc_ga (.ref x) (.str "__class__" t)) ?_
  unfold Builtin.«object.__getattribute__»
  refine wpAny_bind (wpAny_of_eq (a := ((Value.ref x : Value), [Value.str "__class__" t])) (by first | rfl | (simp only [slotArgs]; rfl)) ?_)
  refine wpAny_bind (wpAny_pure (wpAny_bind (L0.at (wpAny_bind (L3.at ?_)))))
  show wpAny _ _ (holding [Value.builtin "object.__class__"] (call (.builtin "getset_descriptor.__get__") [.builtin "object.__class__", .ref x, .ref D]) >>= ret) _ _ _
  refine wpAny_bind (wpAny_holding (wpAny_call (class_get (s := ⟨hp, g, d, t + 1, os⟩) (ox := ox) (od := od) X I T.hm ?_)))
  refine wpAny_pure ?_
  show wpAny _ _ (handedOut (.ref D)) _ _ _
  rw [handedOut_of (v := .ref D) rfl]
  first
    | exact wpAny_pure (wpAny_pure h)
    | exact wpAny_pure h
    | exact wpAny_pure (wpAny_bind (wpAny_pure (wpAny_pure h)))
theorem kitX_exh (T : L2.ExcC K D) : KitX K (.ref x) (.ref D) (fun h => ∃ ox od, InstAt h x ox D od) where
  ty := fun _ _ _ ⟨_, _, I⟩ => I.type
  it := fun _ _ X _ => by
    obtain ⟨cd, hc, _⟩ := any_some T.hd
    unfold clsIn at hc
    split at hc
    · rename_i c' d' cd' sl' ho
      intro A' Q' E' s' k q
      unfold isType loadHead
      exact wpAny_bind (wpAny_loadPart (k _ _ (X _ _ ho)) (wpAny_pure q))
    · cases hc
  ne := fun h tp dd its n sl X htp => by
    obtain ⟨cd, hc, _⟩ := any_some T.hd
    refine Bool.eq_false_iff.mpr fun q => ?_
    have e : D = tp := Value.ref.inj (beq_iff_eq.mp q)
    subst e
    unfold clsIn at hc
    split at hc
    · rename_i c' d' cd' sl' ho
      have z := (X _ _ ho).symm.trans htp
      cases z
    · cases hc
  ca := fun X ⟨ox, od, I⟩ k => xkin_class T X I k
end
end PySem.W
namespace PM
open PySem PySem.Spec L2
/-- an exception's class and the class that is asked for -/
def excCB (C : Str) (K : PySem.W.Frag) : Bool := decide (PySem.W.findIn K (.ref (He.ga K C)) "__getattribute__" = some (some (.builtin "BaseException.__getattribute__"))) && (decide (PySem.W.findIn K (.ref (He.ga K C)) "__getattr__" = some none) && (decide (PySem.W.subIn K (.ref (He.ga K C)) (.type "BaseException") = some true) &&
  (PySem.W.hasDictIn K (He.ga K C) && (decide (PySem.W.findIn K (.ref (He.ga K C)) "__class__" = some (some (.builtin "object.__class__"))) && (decide (PySem.W.specialIn K (.builtin "object.__class__") "__get__" = some (some (.builtin "getset_descriptor.__get__"))) && (decide (PySem.W.takesIn K (.builtin "object.__class__") = some true) &&
  decide (PySem.W.mroIn K (He.ga K C) (.type "object") = some true)))))))
theorem excCB_ok {C : Str} {K : PySem.W.Frag} (h : excCB C K = true) : ExcC K (He.ga K C) := by
  unfold excCB at h
  simp only [Bool.and_eq_true, decide_eq_true_eq] at h
  obtain ⟨h1, h2, h3, h4, h5, h6, h7, h8⟩ := h
  exact ⟨h1, h2, h3, h4, h5, h6, h7, h8⟩
def excOf : RV → Option Str
  | .sh (.exn C _) => some C
  | .sh (.exn0 C) => some C
  | _ => none
/-- isinstance(a, b): a caught error by the table tx, else as in mIsi -/
def mIsiX (tx tab : IsiT) (bs : List Str) (a b : M RV) : M RV := a.bor.bind fun r => b.bor.bind fun s st => match excOf r with
  | some C => (match (tgtOf s).bind fun t => tx.lookup (C, t) with
    | some c => .ok (.sh (.bl c)) st
    | none => .stuck)
  | none => match thing st r with
    | some (C, _) => (match (tgtOf s).bind fun t => tab.lookup (C, t) with
      | some c => .ok (.sh (.bl c)) st
      | none => .stuck)
    | none => at2 (opIsi2 bs) r s st
def IsiXOk (K : PySem.W.Frag) (tx : IsiT) : Prop := ∀ C t b, tx.lookup (C, t) = some b → excCB C K = true ∧ isiRB C t b K = true
def rIsiX (K : PySem.W.Frag) : List V → Hp → VK → Prop := fun vs H Q => ∃ (a D : Addr) (d : Option Addr) (c : V) (cv : Value) (b : Bool) (us : Option (List (Str × V))), vs = [.ref a, c] ∧ H a = some (exh a (.ref D) d) ∧ (match d, us with | none, none => True | some dx, some us => H dx = some (.xd us) | _, _ => False) ∧ ExcC K D ∧ (∀ u, RelV c u → u = cv) ∧ PySem.W.kitOne K (.ref D) cv = some b ∧ Q (.bl b) H
section
variable {X : Cx} {E : Ent} {W : WX} {pos p : Pos} {x : Str} {a b : Expr} {ma mb : M RV} {tx tab : IsiT} {bs : List Str}
theorem call_isiX : CallR X (.builtin "isinstance") (rIsiX X.K) := by
  intro pins s σ H xs us Q I r h
  obtain ⟨a, D, d, c, cv, b, ud, rfl, ha, hd, T, hcv, e, q⟩ := h
  cases r with
  | cons rx rr =>
    cases rr with
    | cons rt rr =>
      cases rr
      cases rx
      have ec := hcv _ rt
      subst ec
      have x1 : ObjOk X.prog X.w H s.heap a (exh a (.ref D) d) := I.hok a _ ha
      obtain ⟨⟨oe, vs, ho, hz, hv⟩, _, _⟩ := x1
      have J : ∃ ox od, PySem.W.InstAt s.heap a ox D od := by
        obtain ⟨oc, dd, oda, osl⟩ := oe
        obtain ⟨h1, h2⟩ := hz
        dsimp only at h1 h2 hv
        subst h1 h2 hv
        cases dd with
        | none => exact ⟨_, none, ho, rfl, rfl, trivial⟩
        | some dx =>
          cases ud with
          | none => exact hd.elim
          | some us =>
            have x2 : ObjOk X.prog X.w H s.heap dx (.xd us) := I.hok dx _ hd
            obtain ⟨mA, ⟨od, _, _, ho2, _⟩, _⟩ := x2
            exact ⟨_, some od, ho, rfl, rfl, ho2⟩
      exact PySem.W.kia_one (PySem.W.kitX_exh T) I.kIn J e (fun z => nomatch z) fun tk => ⟨.bl b, H, I.kept (t' := tk) fun _ _ z => z, rfl, q⟩
theorem cls_rel {w : V} {cv : Value} (h : ClsV w cv) : ∀ u, RelV w u → u = cv := fun u r => h.eq r
theorem sr_isiX (hx : IsiXOk X.K tx) (ht : IsiOk X.K tab) (hb : IsiDOk X.K bs) (hg : Gl X x) (hm : X.mg x = none) (hv : bootBuiltins x = some (.builtin "isinstance")) (ha : SR X E W a ma) (hb2 : SR X E W b mb) (hn : x ≠ "__name__" := by decide) (hdb : (x == ("__debug__" : Str)) = false := by decide)
    (he : starEach [a, b] X.env = (false, eval a X.env) :: starEach [b] X.env := by rfl) (he2 : starEach [b] X.env = (false, eval b X.env) :: starEach [] X.env := by rfl) (hpl : (backTo pos (starEach [b] X.env)).any (·.1) = false := by rfl) :
    SR X E W (.Call (.Name x p) [a, b] [] pos) (mIsiX tx tab bs ma mb) := PEi (pe_callB (r := fun vs H Q => rIsiX X.K vs H Q ∨ rdC2 X.K E (opIsi2 bs) vs H Q ∨ rIsi X.K vs H Q) (fun pins s σ H xs us Q I rv q => q.elim (fun q => call_isiX pins s σ H xs us Q I rv q) fun q => q.elim (fun q => cl_isi2 hb pins s σ H xs us Q I rv q) fun q => call_isi pins s σ H xs us Q I rv q) hg hm hv (pa_cons (sr_bor ha) (pa_cons (sr_bor hb2) pa_nil he2) he) hn hdb he hpl) fun σ H Q ⟨st, φ, I, R, p⟩ => by
  refine ⟨st, φ, I, R, (Po.bind p).imp fun x H1 st1 φ1 I1 S1 R1 p1 v hv hnv => ?_⟩
  clear hnv
  refine ⟨st1, φ1, I1, R1, (Po.bind p1).imp fun y H2 st2 φ2 I2 S2 R2 p2 w hw hnw => ?_⟩
  clear hnw
  cases ex : excOf x with
  | some C =>
    rw [ex] at p2
    simp only at p2
    cases e2 : (tgtOf y).bind fun t => tx.lookup (C, t) with
    | none => rw [e2] at p2; exact p2.elim
    | some c =>
      rw [e2] at p2
      obtain ⟨t, e3, e4⟩ := Option.bind_eq_some_iff.mp e2
      obtain ⟨c1, c3⟩ := hx C t c e4
      refine .inl ?_
      cases x with
      | ow c => cases ex
      | lo i => cases ex
      | sh d =>
        cases d <;> try (cases ex; done)
        · cases ex
          cases (show Rv X.K φ2 I2 (.exn0 C) v from (show Rv X.K φ1 I1 (.exn0 C) v from hv).mono S2.pf S2.ii) with
          | exn0 k1 => exact ⟨_, _, none, w, _, c, none, rfl, R2.ext _ _ k1, trivial, excCB_ok c1, cls_rel (tgt_cls hw e3), of_decide_eq_true c3, p2 H2 φ2 I2 Stp.refl R2 _ (.bl c) Nw.sh⟩
        · cases ex
          rename_i fs
          cases (show Rv X.K φ2 I2 (.exn C fs) v from (show Rv X.K φ1 I1 (.exn C fs) v from hv).mono S2.pf S2.ii) with
          | exn k1 k2 _ _ => exact ⟨_, _, some _, w, _, c, some _, rfl, R2.ext _ _ k1, R2.ext _ _ k2, excCB_ok c1, cls_rel (tgt_cls hw e3), of_decide_eq_true c3, p2 H2 φ2 I2 Stp.refl R2 _ (.bl c) Nw.sh⟩
  | none =>
    rw [ex] at p2
    simp only at p2
    refine .inr ?_
    cases e : thing st2 x with
    | none =>
      rw [e] at p2
      obtain ⟨x', y', r, ex, ey, e, p3⟩ := Po.at2 p2
      exact .inl ⟨v, w, rfl, σ, st2, φ2, I2, x', y', r, R2, hv.seen S2 R2 ex, hw.seen Stp.refl R2 ey, e, fun u H' I' S' R' hr hn => p3 H' φ2 I' S' R' u hr (Nw.far (S1.trans S2).there hn)⟩
    | some t =>
      obtain ⟨C, fs⟩ := t
      rw [e] at p2
      obtain ⟨a1, d1, u1, rfl, k1, _, _⟩ := hv.thing S2 R2 e
      simp only at p2
      cases e2 : (tgtOf y).bind fun t => tab.lookup (C, t) with
      | none => rw [e2] at p2; exact p2.elim
      | some c =>
        rw [e2] at p2
        obtain ⟨t, e3, e4⟩ := Option.bind_eq_some_iff.mp e2
        obtain ⟨c1, c2, c3⟩ := ht C t c e4
        simp only [isiCB, clsOkB, Bool.and_eq_true] at c2
        obtain ⟨z1, z2, z3, z4⟩ := c2
        exact .inr ⟨_, _, .ref (He.ga X.K C), _, _, rfl, tgt_cls hw e3, .base (.ins k1 c1 (of_decide_eq_true z1) (of_decide_eq_true z2) (of_decide_eq_true z3) (of_decide_eq_true z4)), of_decide_eq_true c3, p2 H2 φ2 I2 Stp.refl R2 _ (.bl c) Nw.sh⟩
end
end PM
set_option Elab.async false
set_option linter.all false
set_option maxRecDepth 100000
set_option maxHeartbeats 1200000
namespace PM
open PySem PySem.Spec L2
/-! ### defs with defaults; calls with keywords -/
section
variable {X : Cx} {E : Ent} {W : WX} {pos p kpos : Pos} {k : Nat} {f : Addr} {m : Nat} {ks : List Str} {F : Fn} {x : Str} {nm : Option Str} {e : Expr} {es : List Expr} {kws : List Keyword} {me : M RV} {ma mk : M (List D)}
/-- f(e, .., k = v, ..): the keywords behind the places -/
def mCallK (n m : Nat) (F : Fn) (args kargs : M (List D)) : M RV := args.bind fun ds => kargs.bind fun es st => if ds.length = n ∧ es.length = m then ofF st (F (ds ++ es) st.store) else .stuck
end
end PM
set_option Elab.async false
set_option linter.all false
set_option maxRecDepth 100000
set_option maxHeartbeats 1200000
namespace PM
open PySem PySem.Spec L2
/-! ### own exception classes, by tests of the part of the heap -/
structure BxP (B initId : String) (x : Str) : Prop where
  hv : bootBuiltins x = some (.type B)
  hd : (x == ("__debug__" : Str)) = false
  hn : x ≠ "__name__"
  ty : typeOf (.type B) = pure (.type "type")
  st : Manifest.isStub B = false
  hh : PySem.W.handedIn (.builtin initId) = true
theorem bp_ValueError : BxP "ValueError" "ValueError.__init__" "ValueError" := ⟨by kernel_rfl, by decide, by decide, by kernel_rfl, by decide +kernel, by decide +kernel⟩
def viB (K : PySem.W.Frag) (B initId : String) : Bool := match PySem.W.findCls K (.type B) (.type "type") "__init__" with
  | some (.val (.builtin n)) => decide (n = initId)
  | _ => false
theorem viB_ok {K : PySem.W.Frag} {B initId : String} (h : viB K B initId = true) : PySem.W.findCls K (.type B) (.type "type") "__init__" = some (.val (.builtin initId)) := by
  unfold viB at h
  split at h
  · rename_i n e
    rw [e, of_decide_eq_true h]
  · cases h
/-- the test of an own exception class -/
def xcB (B newId initId : String) (bm : List Value) (C : Str) (fs : List Str) (K : PySem.W.Frag) : Bool :=
  PySem.W.excInitIn K (He.ga K C) bm newId && (PySem.W.excOver K (He.ga K C) bm && (PySem.W.hasDictIn K (He.ga K C) && (decide (PySem.W.findIn K (.ref (He.ga K C)) "__setattr__" = some (some (.builtin "object.__setattr__"))) && (decide (PySem.W.subIn K (.ref (He.ga K C)) (.type "BaseException") = some true) &&
  (decide (PySem.W.typeIn K (.ref (He.ga K C)) = some (.type "type")) && (PySem.W.keepIn K (.ref (He.ga K C)) && (decide (PySem.W.findIn K (.ref (He.ga K C)) "__init__" = some (some (.ref (He.ma K (He.ga K C) "__init__")))) && (decide (PySem.W.typeIn K (.ref (He.ma K (He.ga K C) "__init__")) = some (.type "function")) &&
  (viB K B initId && fs.all fun f => decide (PySem.W.findIn K (.ref (He.ga K C)) f = some none))))))))))
structure XcT (K : PySem.W.Frag) (B newId initId : String) (bm : List Value) (C : Str) (fs : List Str) : Prop where
  T : XcF K B newId initId bm (He.ga K C)
  iC : PySem.W.findIn K (.ref (He.ga K C)) "__init__" = some (some (.ref (He.ma K (He.ga K C) "__init__")))
  tI : PySem.W.typeIn K (.ref (He.ma K (He.ga K C) "__init__")) = some (.type "function")
  vi : PySem.W.findCls K (.type B) (.type "type") "__init__" = some (.val (.builtin initId))
  no : ∀ f ∈ fs, PySem.W.findIn K (.ref (He.ga K C)) f = some none
theorem xcB_ok {B newId initId : String} {bm : List Value} {C : Str} {fs : List Str} {K : PySem.W.Frag} (b : BxF B newId initId bm) (h : xcB B newId initId bm C fs K = true) : XcT K B newId initId bm C fs := by
  unfold xcB at h
  simp only [Bool.and_eq_true, decide_eq_true_eq, List.all_eq_true] at h
  obtain ⟨h1, h2, h3, h4, h5, h6, h7, h8, h9, h10, h11⟩ := h
  exact ⟨⟨b, h1, h2, h3, h4, h5, h6, h7⟩, h8, h9, viB_ok h10, h11⟩
section
variable {P : Program} {w : World} {K : PySem.W.Frag} {mg : Str → Option Value} {base : Heap} {fI : Addr} {C name qual f g y z x tx : Str} {j : Nat} {params : Arguments} {scope : Scope} {fd : FuncData} {B newId initId : String} {bm : List Value} {p1 p2 p3 p4 p5 p6 p7 p8 p9 p10 p11 p12 p13 p14 : Pos}
theorem bxn {X : Cx} (P : BxP B initId x) (hg : Gl X x) (hm : X.mg x = none) (vi : PySem.W.findCls X.K (.type B) (.type "type") "__init__" = some (.val (.builtin initId))) : BxN X B initId x := ⟨hg, hm, P.hv, P.hd, P.hn, P.ty, P.st, vi, P.hh⟩
theorem xc1 (t : XcT K B newId initId bm C [f]) (F : FunD K name qual params [.Expr (.Call (.Attribute (.Name x p1) "__init__" p2) [.Name "self" p3, .Constant (.str tx) j p4] [] p5) p6, .Assign [.Attribute (.Name "self" p7) f p8] (.Name y p9) p10] scope [] [] (He.ma K (He.ga K C) "__init__") fd)
    (S : FnScope ["self", y] ["self", y] scope)
    (h1 : ∀ cdv A outer s H E, PE (cxOf (L2.CX P w) P w K mg base ["self", y] qual scope (He.ma K (He.ga K C) "__init__") cdv A outer s H E) (.Call (.Attribute (.Name x p1) "__init__" p2) [.Name "self" p3, .Constant (.str tx) j p4] [] p5) (tBxi (He.ga K C)))
    (h2 : ∀ cdv A outer s H E, PS (cxOf (L2.CX P w) P w K mg base ["self", y] qual scope (He.ma K (He.ga K C) "__init__") cdv A outer s H E) (.Assign [.Attribute (.Name "self" p7) f p8] (.Name y p9) p10) (tXst K (He.ga K C) 1 f))
    (hb : Binds K fd ["self", y] []) : XcP P w K mg base 1 C [f] :=
  ⟨⟨B, newId, initId, bm, _, fd, _, t.T, t.iC, t.tI, xok1 (k := 0) t.T (t.no f (by simp)) F S h1 h2, hb⟩, by simp⟩
end
/-- the classes ys against the clause's class C -/
def exmAB (ys : List Str) (C : Str) (K : PySem.W.Frag) : Bool := ys.all fun Y => decide (PySem.W.exmOne K (.ref (He.ga K Y)) (.ref (He.ga K C)) = some (decide (Y = C)))
theorem exmAB_ok {ys : List Str} {C : Str} {K : PySem.W.Frag} (h : exmAB ys C K = true) : ∀ Y ∈ ys, PySem.W.exmOne K (.ref (He.ga K Y)) (.ref (He.ga K C)) = some (decide (Y = C)) := fun Y hY => of_decide_eq_true (List.all_eq_true.mp h Y hY)
/-- tables of isinstance, by tests -/
def isiTB (tab : IsiT) (K : PySem.W.Frag) : Bool := tab.all fun r => isiCB r.1.1 K && isiRB r.1.1 r.1.2 r.2 K
def isiXB (tab : IsiT) (K : PySem.W.Frag) : Bool := tab.all fun r => excCB r.1.1 K && isiRB r.1.1 r.1.2 r.2 K
theorem lookup_mem {α β : Type} [BEq α] [LawfulBEq α] {a : α} {b : β} : ∀ {l : List (α × β)}, l.lookup a = some b → (a, b) ∈ l
  | [], e => by cases e
  | (c, d) :: l, e => by
    rw [List.lookup_cons] at e
    cases q : (a == c) with
    | true =>
      rw [q] at e
      cases e
      rw [beq_iff_eq.mp q]
      exact List.mem_cons_self ..
    | false => rw [q] at e; exact List.mem_cons_of_mem _ (lookup_mem e)
theorem isiTB_ok {tab : IsiT} {K : PySem.W.Frag} (h : isiTB tab K = true) (hc : ∀ r ∈ tab, Cls K (He.ga K r.1.1)) : IsiOk K tab := fun C t b e => by
  have m := lookup_mem e
  obtain ⟨h1, h2⟩ := Bool.and_eq_true_iff.mp (List.all_eq_true.mp h _ m)
  exact ⟨hc _ m, h1, h2⟩
theorem isiXB_ok {tab : IsiT} {K : PySem.W.Frag} (h : isiXB tab K = true) : IsiXOk K tab := fun C t b e => by
  obtain ⟨h1, h2⟩ := Bool.and_eq_true_iff.mp (List.all_eq_true.mp h _ (lookup_mem e))
  exact ⟨h1, h2⟩
def isiDAB (bs : List Str) (K : PySem.W.Frag) : Bool := bs.all fun B => isiDB B K
theorem hv_of {k : Nat} {A : Around} (r : Room k A) : A.units + 70 < cLine := by have := r.un; omega
theorem isiDAB_ok {bs : List Str} {K : PySem.W.Frag} (h : isiDAB bs K = true) : IsiDOk K bs := fun B hB => List.all_eq_true.mp h B hB
end PM
set_option Elab.async false
set_option linter.all false
set_option maxRecDepth 100000
set_option maxHeartbeats 1200000
namespace PM
open PySem PySem.Spec L2
/-! ### a class without its own __ne__, as a test -/
def neB (C : Str) : Fb := fun K => He.eqO (PySem.W.findIn K (.ref (He.ga K C)) "__ne__") (some (some (.builtin "object.__ne__"))) && decide (PySem.W.mroIn K (He.ga K C) (.type "object") = some true)
theorem ne_ok {K : PySem.W.Frag} {C : Str} (h : neB C K = true) : PySem.W.findIn K (.ref (He.ga K C)) "__ne__" = some (some (.builtin "object.__ne__")) ∧ PySem.W.mroIn K (He.ga K C) (.type "object") = some true := ⟨He.eqO_ok (He.ba h).1, of_decide_eq_true (He.ba h).2⟩
end PM
set_option Elab.async false
set_option linter.all false
set_option maxRecDepth 100000
set_option maxHeartbeats 4000000
namespace A73
open PySem PySem.Spec L2 PM
def flyX : List Str := ["InvalidPlayers", "OtherPlayers", "InvalidWishes"]
def isiX : IsiT := [(("InvalidPlayers", .ty "list"), false), (("InvalidPlayers", .ty "tuple"), false), (("InvalidPlayers", .ty "int"), false), (("InvalidPlayers", .ty "dict"), false), (("InvalidPlayers", .ty "bool"), false), (("InvalidPlayers", .own "Wishes"), false), (("InvalidPlayers", .ty "ValueError"), true), (("InvalidPlayers", .own "InvalidPlayers"), true), (("OtherPlayers", .ty "list"), false), (("OtherPlayers", .ty "tuple"), false), (("OtherPlayers", .ty "int"), false), (("OtherPlayers", .ty "dict"), false), (("OtherPlayers", .ty "bool"), false), (("OtherPlayers", .own "Wishes"), false), (("OtherPlayers", .ty "ValueError"), true), (("OtherPlayers", .own "InvalidPlayers"), false), (("InvalidWishes", .ty "list"), false), (("InvalidWishes", .ty "tuple"), false), (("InvalidWishes", .ty "int"), false), (("InvalidWishes", .ty "dict"), false), (("InvalidWishes", .ty "bool"), false), (("InvalidWishes", .own "Wishes"), false), (("InvalidWishes", .ty "ValueError"), true), (("InvalidWishes", .own "InvalidPlayers"), false)]
def isiT : IsiT := [(("Wishes", .ty "list"), false), (("Wishes", .ty "tuple"), false), (("Wishes", .ty "int"), false), (("Wishes", .ty "dict"), false), (("Wishes", .ty "bool"), false), (("Wishes", .own "Wishes"), true), (("Wishes", .ty "ValueError"), false), (("Wishes", .own "InvalidPlayers"), false)]
def isiD : List Str := ["Wishes", "InvalidPlayers"]
def top (i : Nat) : Stmt := PySem.Challenge.pw_pactroads_k73_wishes_made.main.body.getD i (.Pass ⟨0, 0, 0, 0⟩)
abbrev tp__law_pen : Stmt := top 26
def d__law_pen : DefP := ⟨fun K => He.ga K "_law_pen", "_law_pen", "_law_pen", defArgs tp__law_pen, defBody tp__law_pen, defScope tp__law_pen, [], []⟩
abbrev tp__law_draw : Stmt := top 27
def d__law_draw : DefP := ⟨fun K => He.ga K "_law_draw", "_law_draw", "_law_draw", defArgs tp__law_draw, defBody tp__law_draw, defScope tp__law_draw, [], []⟩
abbrev tp__law_pick : Stmt := top 28
def d__law_pick : DefP := ⟨fun K => He.ga K "_law_pick", "_law_pick", "_law_pick", defArgs tp__law_pick, defBody tp__law_pick, defScope tp__law_pick, [], []⟩
abbrev tp__law_odd : Stmt := top 32
def d__law_odd : DefP := ⟨fun K => He.ga K "_law_odd", "_law_odd", "_law_odd", defArgs tp__law_odd, defBody tp__law_odd, defScope tp__law_odd, [], []⟩
abbrev tp__law_bent : Stmt := top 33
def d__law_bent : DefP := ⟨fun K => He.ga K "_law_bent", "_law_bent", "_law_bent", defArgs tp__law_bent, defBody tp__law_bent, defScope tp__law_bent, [], []⟩
abbrev tp_is_list : Stmt := top 8
def d_is_list : DefP := ⟨fun K => He.ga K "is_list", "is_list", "is_list", defArgs tp_is_list, defBody tp_is_list, defScope tp_is_list, [], []⟩
abbrev tp_is_tuple_of : Stmt := top 9
def d_is_tuple_of : DefP := ⟨fun K => He.ga K "is_tuple_of", "is_tuple_of", "is_tuple_of", defArgs tp_is_tuple_of, defBody tp_is_tuple_of, defScope tp_is_tuple_of, [], []⟩
abbrev tp_is_integer : Stmt := top 6
def d_is_integer : DefP := ⟨fun K => He.ga K "is_integer", "is_integer", "is_integer", defArgs tp_is_integer, defBody tp_is_integer, defScope tp_is_integer, [], []⟩
abbrev tp_divisor : Stmt := top 11
def d_divisor : DefP := ⟨fun K => He.ga K "divisor", "divisor", "divisor", defArgs tp_divisor, defBody tp_divisor, defScope tp_divisor, [], []⟩
abbrev tp_is_fraction : Stmt := top 13
def d_is_fraction : DefP := ⟨fun K => He.ga K "is_fraction", "is_fraction", "is_fraction", defArgs tp_is_fraction, defBody tp_is_fraction, defScope tp_is_fraction, [], []⟩
abbrev tp_is_pair : Stmt := top 18
def d_is_pair : DefP := ⟨fun K => He.ga K "is_pair", "is_pair", "is_pair", defArgs tp_is_pair, defBody tp_is_pair, defScope tp_is_pair, [], []⟩
abbrev tp_are_pairs : Stmt := top 19
def d_are_pairs : DefP := ⟨fun K => He.ga K "are_pairs", "are_pairs", "are_pairs", defArgs tp_are_pairs, defBody tp_are_pairs, defScope tp_are_pairs, [], []⟩
abbrev tp_Wishes___init__ : Stmt := inCls (top 24) 0
def d_Wishes___init__ : DefP := ⟨fun K => He.ma K (He.ga K "Wishes") "__init__", "__init__", "Wishes.__init__", defArgs tp_Wishes___init__, defBody tp_Wishes___init__, defScope tp_Wishes___init__, [], []⟩
abbrev tp_Wishes___eq__ : Stmt := inCls (top 24) 1
def d_Wishes___eq__ : DefP := ⟨fun K => He.ma K (He.ga K "Wishes") "__eq__", "__eq__", "Wishes.__eq__", defArgs tp_Wishes___eq__, defBody tp_Wishes___eq__, defScope tp_Wishes___eq__, [], []⟩
abbrev tp_Wishes_pairs : Stmt := inCls (top 24) 7
def d_Wishes_pairs : DefP := ⟨fun K => recG K "property" "Wishes" "pairs", "pairs", "Wishes.pairs", defArgs tp_Wishes_pairs, defBody tp_Wishes_pairs, defScope tp_Wishes_pairs, [], []⟩
abbrev tp__law_copied : Stmt := top 42
def d__law_copied : DefP := ⟨fun K => He.ga K "_law_copied", "_law_copied", "_law_copied", defArgs tp__law_copied, defBody tp__law_copied, defScope tp__law_copied, [], []⟩
abbrev tp__law_fraction : Stmt := top 30
def d__law_fraction : DefP := ⟨fun K => He.ga K "_law_fraction", "_law_fraction", "_law_fraction", defArgs tp__law_fraction, defBody tp__law_fraction, defScope tp__law_fraction, [], []⟩
abbrev tp__law_integer : Stmt := top 29
def d__law_integer : DefP := ⟨fun K => He.ga K "_law_integer", "_law_integer", "_law_integer", defArgs tp__law_integer, defBody tp__law_integer, defScope tp__law_integer, [], []⟩
abbrev tp__law_value : Stmt := top 31
def d__law_value : DefP := ⟨fun K => He.ga K "_law_value", "_law_value", "_law_value", defArgs tp__law_value, defBody tp__law_value, defScope tp__law_value, [], []⟩
abbrev tp__law_is_value : Stmt := top 34
def d__law_is_value : DefP := ⟨fun K => He.ga K "_law_is_value", "_law_is_value", "_law_is_value", defArgs tp__law_is_value, defBody tp__law_is_value, defScope tp__law_is_value, [], []⟩
abbrev tp__law_are_duos : Stmt := top 35
def d__law_are_duos : DefP := ⟨fun K => He.ga K "_law_are_duos", "_law_are_duos", "_law_are_duos", defArgs tp__law_are_duos, defBody tp__law_are_duos, defScope tp__law_are_duos, [], []⟩
abbrev tp__law_made : Stmt := top 36
def d__law_made : DefP := ⟨fun K => He.ga K "_law_made", "_law_made", "_law_made", defArgs tp__law_made, defBody tp__law_made, defScope tp__law_made, [], []⟩
abbrev tp__law_is_right : Stmt := top 38
def d__law_is_right : DefP := ⟨fun K => He.ga K "_law_is_right", "_law_is_right", "_law_is_right", defArgs tp__law_is_right, defBody tp__law_is_right, defScope tp__law_is_right, [], []⟩
abbrev tp__law_is_equal : Stmt := top 40
def d__law_is_equal : DefP := ⟨fun K => He.ga K "_law_is_equal", "_law_is_equal", "_law_is_equal", defArgs tp__law_is_equal, defBody tp__law_is_equal, defScope tp__law_is_equal, [], []⟩
abbrev tp_Wishes_exactly : Stmt := inCls (top 24) 6
def d_Wishes_exactly : DefP := ⟨fun K => recG K "classmethod" "Wishes" "exactly", "exactly", "Wishes.exactly", defArgs tp_Wishes_exactly, defBody tp_Wishes_exactly, defScope tp_Wishes_exactly, [], []⟩
abbrev tp__law_exact : Stmt := top 37
def d__law_exact : DefP := ⟨fun K => He.ga K "_law_exact", "_law_exact", "_law_exact", defArgs tp__law_exact, defBody tp__law_exact, defScope tp__law_exact, [], []⟩
abbrev tp__law_is_exact : Stmt := top 39
def d__law_is_exact : DefP := ⟨fun K => He.ga K "_law_is_exact", "_law_is_exact", "_law_is_exact", defArgs tp__law_is_exact, defBody tp__law_is_exact, defScope tp__law_is_exact, [], []⟩
abbrev tp_is_between : Stmt := top 7
def d_is_between : DefP := ⟨fun K => He.ga K "is_between", "is_between", "is_between", defArgs tp_is_between, defBody tp_is_between, defScope tp_is_between, [], []⟩
abbrev tp_Wishes_none : Stmt := inCls (top 24) 5
def d_Wishes_none : DefP := ⟨fun K => recG K "classmethod" "Wishes" "none", "none", "Wishes.none", defArgs tp_Wishes_none, defBody tp_Wishes_none, defScope tp_Wishes_none, [], []⟩
abbrev tp__law_none : Stmt := top 41
def d__law_none : DefP := ⟨fun K => He.ga K "_law_none", "_law_none", "_law_none", defArgs tp__law_none, defBody tp__law_none, defScope tp__law_none, [], []⟩
abbrev tp_law : Stmt := top 43
def d_law : DefP := ⟨fun K => He.ga K "law", "law", "law", defArgs tp_law, defBody tp_law, defScope tp_law, [], []⟩
abbrev tp_x_InvalidWishes : Stmt := inCls (top 4) 0
def d_x_InvalidWishes : DefP := ⟨fun K => He.ma K (He.ga K "InvalidWishes") "__init__", "__init__", "InvalidWishes.__init__", defArgs tp_x_InvalidWishes, defBody tp_x_InvalidWishes, defScope tp_x_InvalidWishes, [], []⟩
abbrev tp_x_InvalidPlayers : Stmt := inCls (top 2) 0
def d_x_InvalidPlayers : DefP := ⟨fun K => He.ma K (He.ga K "InvalidPlayers") "__init__", "__init__", "InvalidPlayers.__init__", defArgs tp_x_InvalidPlayers, defBody tp_x_InvalidPlayers, defScope tp_x_InvalidPlayers, [], []⟩
def fn : List DefP := [d__law_pen, d__law_draw, d__law_pick, d__law_odd, d__law_bent, d_is_list, d_is_tuple_of, d_is_integer, d_divisor, d_is_fraction, d_is_pair, d_are_pairs, d_Wishes___init__, d_Wishes___eq__, d_Wishes_pairs, d__law_copied, d__law_fraction, d__law_integer, d__law_value, d__law_is_value, d__law_are_duos, d__law_made, d__law_is_right, d__law_is_equal, d_Wishes_exactly, d__law_exact, d__law_is_exact, d_is_between, d_Wishes_none, d__law_none, d_law, d_x_InvalidWishes, d_x_InvalidPlayers]
def fa : List Fb := ([fun K => (He.Fa.glo "_law_pen").ok K, fun K => (He.Fa.glo "_law_draw").ok K, fun K => (He.Fa.glo "_law_pick").ok K, fun K => (He.Fa.glo "_law_odd").ok K, fun K => (He.Fa.glo "_law_bent").ok K, fun K => (He.Fa.glo "is_list").ok K, fun K => (He.Fa.glo "is_tuple_of").ok K, fun K => (He.Fa.glo "is_integer").ok K, fun K => (He.Fa.glo "divisor").ok K, fun K => (He.Fa.glo "is_fraction").ok K, fun K => (He.Fa.glo "is_pair").ok K, fun K => (He.Fa.glo "are_pairs").ok K, fun K => (He.Fa.glo "_law_copied").ok K, fun K => (He.Fa.glo "_law_fraction").ok K, fun K => (He.Fa.glo "_law_integer").ok K, fun K => (He.Fa.glo "_law_value").ok K, fun K => (He.Fa.glo "_law_is_value").ok K, fun K => (He.Fa.glo "_law_are_duos").ok K, fun K => (He.Fa.glo "_law_made").ok K, fun K => (He.Fa.glo "_law_is_right").ok K, fun K => (He.Fa.glo "_law_is_equal").ok K, fun K => (He.Fa.glo "_law_exact").ok K, fun K => (He.Fa.glo "_law_is_exact").ok K, fun K => (He.Fa.glo "is_between").ok K, fun K => (He.Fa.glo "_law_none").ok K, fun K => (He.Fa.glo "law").ok K, fun K => (He.Fa.glo "Wishes").ok K, fun K => (He.Fa.glo "InvalidWishes").ok K, fun K => (He.Fa.glo "InvalidPlayers").ok K, fun K => (He.Fa.free "list").ok K] : List Fb) ++ ([fun K => (He.Fa.free "len").ok K, fun K => (He.Fa.free "abs").ok K, fun K => (He.Fa.free "tuple").ok K, fun K => (He.Fa.free "isinstance").ok K, fun K => (He.Fa.free "dict").ok K, fun K => (He.Fa.free "int").ok K, fun K => (He.Fa.free "bool").ok K, fun K => (He.Fa.free "all").ok K, fun K => (He.Fa.free "repr").ok K, fun K => (He.Fa.free "ValueError").ok K, fun K => (He.Fa.free "min").ok K, fun K => (He.Fa.free "range").ok K, fun K => (He.Fa.int "MAX_PLAYERS" 3).ok K, fun K => (He.Fa.keep "_law_pen").ok K, fun K => (He.Fa.keep "_law_draw").ok K, fun K => (He.Fa.keep "_law_pick").ok K, fun K => (He.Fa.keep "_law_odd").ok K, fun K => (He.Fa.keep "_law_bent").ok K, fun K => (He.Fa.keep "is_list").ok K, fun K => (He.Fa.keep "is_tuple_of").ok K, fun K => (He.Fa.keep "is_integer").ok K, fun K => (He.Fa.keep "divisor").ok K, fun K => (He.Fa.keep "is_fraction").ok K, fun K => (He.Fa.keep "is_pair").ok K, fun K => (He.Fa.keep "are_pairs").ok K, fun K => (He.Fa.keep "_law_copied").ok K, fun K => (He.Fa.keep "_law_fraction").ok K, fun K => (He.Fa.keep "_law_integer").ok K, fun K => (He.Fa.keep "_law_value").ok K, fun K => (He.Fa.keep "_law_is_value").ok K] : List Fb) ++ ([fun K => (He.Fa.keep "_law_are_duos").ok K, fun K => (He.Fa.keep "_law_made").ok K, fun K => (He.Fa.keep "_law_is_right").ok K, fun K => (He.Fa.keep "_law_is_equal").ok K, fun K => (He.Fa.keep "_law_exact").ok K, fun K => (He.Fa.keep "_law_is_exact").ok K, fun K => (He.Fa.keep "is_between").ok K, fun K => (He.Fa.keep "_law_none").ok K, fun K => (He.Fa.keep "law").ok K, fun K => (He.Fa.cls "Wishes").ok K, fun K => (He.Fa.noat "Wishes" "kept").ok K, fun K => isiXB isiX K, fun K => isiTB isiT K, fun K => isiDAB isiD K, fun K => (He.Fa.mkr "Wishes").ok K, fun K => propB "Wishes" "pairs" K, fun K => sysB K, fun K => (He.Fa.meth "Wishes" "__eq__").ok K, fun K => xfB "InvalidPlayers" "value" K, fun K => xfB "InvalidWishes" "value" K, fun K => exmAB flyX "InvalidWishes" K, fun K => neB "Wishes" K, fun K => readB "Wishes" K, fun K => cmB "Wishes" "exactly" K, fun K => cmB "Wishes" "none" K, fun K => exmAB flyX "InvalidPlayers" K, fun K => xcB "ValueError" "ValueError.__new__" "ValueError.__init__" [.type "ValueError", .type "Exception", .type "BaseException", .type "object"] "InvalidWishes" ["value"] K, fun K => xcB "ValueError" "ValueError.__new__" "ValueError.__init__" [.type "ValueError", .type "Exception", .type "BaseException", .type "object"] "InvalidPlayers" ["value"] K] : List Fb)
end A73
set_option Elab.async false
set_option linter.all false
set_option maxRecDepth 100000
set_option maxHeartbeats 1200000
namespace PM
open PySem PySem.Spec L2
/-! ### the head's facts, looked up in named places of the heap alone -/
def obsPL (as : List Addr) (fa : List Fb) (fn : List DefP) (g : Addr → Option Obj) : He.AlD := obsP fa fn (He.frG g as)
def hookL (as : List Addr) (fa : List Fb) (fn : List DefP) : PySem.W.Hook where
  α := He.AlD
  obs := fun s => obsPL as fa fn s.heap.get?
  val := fun _ => valP fn
  says := fun _ h => ∃ K : PySem.W.Frag, K.In h ∧ SaysP fa fn K
  of := fun _ _ e => ⟨_, He.frG_in, e⟩
  keeps := fun _ _ _ ⟨K, hK, c⟩ k => ⟨K, PySem.W.Frag.In.keeps hK k, c⟩
theorem obsPL_eq {as : List Addr} {fa : List Fb} {fn : List DefP} {g : Addr → Option Obj} {s : Shared} (h : ∀ a, g a = s.heap.get? a) : obsPL as fa fn g = (hookL as fa fn).obs s := by
  have e : g = s.heap.get? := funext h
  rw [e] <;> rfl
end PM
set_option Elab.async false
set_option linter.all false
set_option maxRecDepth 100000
set_option maxHeartbeats 0
namespace A73
open PySem PySem.Spec L2 PM
abbrev RH : PySem.W.OpenRow := PySem.W.OpenLaw.row PySem.Challenge.rw_pactroads_k73_wishes_made
-- ADDRESSES
def adH : List Addr := PySem.sysModules :: PySem.cStatics :: (([3, 6, 4, 21, 38, 58, 78, 88, 95, 102, 109, 116, 123, 130, 137, 144, 149, 154, 161, 168, 175, 182, 256, 267, 274, 281, 288, 295, 302, 309, 316, 321, 326, 333, 340, 347, 352, 357, 364, 371, 376, 0, 20, 37, 57, 77, 87, 94, 101, 108] : List Addr) ++ ([115, 122, 129, 136, 143, 148, 153, 160, 167, 174, 181, 255, 266, 273, 280, 287, 294, 301, 308, 315, 320, 325, 332, 339, 346, 351, 356, 363, 370, 375, 15, 16, 17, 18, 19, 35, 36, 39, 55, 56, 59, 75, 76, 79, 82, 83, 84, 85, 86, 89] : List Addr) ++ ([90, 91, 92, 93, 96, 97, 98, 99, 100, 103, 104, 105, 106, 107, 110, 111, 112, 113, 114, 117, 118, 119, 120, 121, 124, 125, 126, 127, 128, 131, 132, 133, 134, 135, 138, 139, 140, 141, 142, 145, 146, 147, 150, 151, 152, 155, 156, 157, 158, 159] : List Addr) ++ ([162, 163, 164, 165, 166, 169, 170, 171, 172, 173, 176, 177, 178, 179, 180, 196, 203, 208, 215, 220, 229, 237, 246, 253, 254, 257, 258, 261, 262, 263, 264, 265, 268, 269, 270, 271, 272, 275, 276, 277, 278, 279, 282, 283, 284, 285, 286, 289, 290, 291] : List Addr) ++ ([292, 293, 296, 297, 298, 299, 300, 303, 304, 305, 306, 307, 310, 311, 312, 313, 314, 317, 318, 319, 322, 323, 324, 327, 328, 329, 330, 331, 334, 335, 336, 337, 338, 341, 342, 343, 344, 345, 348, 349, 350, 353, 354, 355, 358, 359, 360, 361, 362, 365] : List Addr) ++ ([366, 367, 368, 369, 372, 373, 374, 34, 54, 74, 195, 202, 207, 214, 219, 227, 228, 235, 236, 245, 252, 29, 30, 31, 32, 33, 49, 50, 51, 52, 53, 69, 70, 71, 72, 73, 190, 191, 192, 193, 194, 197, 198, 199, 200, 201, 204, 205, 206, 209] : List Addr) ++ ([210, 211, 212, 213, 216, 217, 218, 226, 230, 234, 238, 244, 247, 248, 249, 250, 251, 221, 222, 223, 224, 225, 231, 232, 233, 239, 240, 241, 242, 243] : List Addr))
abbrev hkH : PySem.W.Hook := hookL adH fa fn
def obH (s : PySem.W.SharedT) : He.AlD := obsPL adH fa fn (HandSHeadRun.getT s)
theorem obH_eq (s : PySem.W.SharedT) : obH s = hkH.obs s.abs := obsPL_eq (HandSHeadRun.getT_eq s)
def looseH : List Str := (["InvalidPlayers", "InvalidWishes", "MAX_PLAYERS", "OtherPlayers", "Wishes", "_law_are_duos", "_law_bent", "_law_copied", "_law_draw", "_law_exact", "_law_fraction", "_law_integer", "_law_is_equal", "_law_is_exact", "_law_is_right", "_law_is_value", "_law_made", "_law_none", "_law_odd", "_law_pen", "_law_pick", "_law_value", "_wall", "are_pairs", "divisor", "greater_low", "greatest_of", "is_between", "is_fraction", "is_integer"] : List Str) ++ (["is_less", "is_list", "is_met", "is_pair", "is_possible", "is_tuple_of", "least_of", "lesser_high"] : List Str)
theorem runH (w : World) : HandSHeadRun.RunEq RH (PySem.W.view RH.prog [43]) hkH obH 4000 looseH w := by
  intro os
  kernel_rfl
end A73
set_option Elab.async false
set_option linter.all false
set_option maxRecDepth 100000
set_option maxHeartbeats 1200000
namespace PM
open PySem PySem.Spec L2
/-! ### a, b, c = x, y, z -/
def mPar3 (i j l : Nat) (a b c : M RV) : MS := a.fix.then fun r => b.fix.then fun s => c.fix.then fun t st => if isLo s || isLo t then .stuck else .nx { st with env := ((st.env.set i r.slot).set j s.slot).set l t.slot }
end PM
set_option Elab.async false
set_option linter.all false
set_option maxRecDepth 100000
set_option maxHeartbeats 1200000
namespace PM
open PySem PySem.Spec L2
/-! ### how long a value's repr is -/
def shw (d : D) : Str := match d.pyd with
  | some p => p.shown
  | none => Str.empty
def Shw (k n : Nat) (d : D) : Prop := ∃ p, d.pyd = some p ∧ p.showable = true ∧ p.depth ≤ k ∧ p.shown.length ≤ n
def Shws (k n : Nat) (ds : List D) : Prop := ∃ ps, D.pyds ds = some ps ∧ PyData.showableAll ps = true ∧ PyData.depthAll ps ≤ k ∧ piled (PyData.shownAll ps) ≤ n
theorem Shw.mono {k n l m : Nat} {d : D} (h : Shw k n d) (h1 : k ≤ l) (h2 : n ≤ m) : Shw l m d := by
  obtain ⟨p, e1, e2, e3, e4⟩ := h
  exact ⟨p, e1, e2, by omega, by omega⟩
theorem shw_non : Shw 0 4 .non := ⟨.none, rfl, by simp only [PyData.showable], by simp only [PyData.depth]; omega, by simp only [PyData.shown]; decide⟩
theorem shw_bl (b : Bool) : Shw 0 5 (.bl b) := ⟨.bool b, rfl, by simp only [PyData.showable], by simp only [PyData.depth]; omega, by simp only [PyData.shown]; cases b <;> decide⟩
theorem shw_int {i : Int} (h : i.natAbs.log2 < 1920) : Shw 0 1921 (.int i) := ⟨.int i, rfl, by simpa only [PyData.showable, decide_eq_true_eq] using h, by simp only [PyData.depth]; omega, by
  simp only [PyData.shown]
  have e : (((toString i : String)) : Str) = Str.ofString (toString i) := rfl
  rw [e]
  exact PyProof.Rows.int_text_len_1921 h⟩
theorem shw_str {x : Str} (h : ∀ c ∈ x.cps.toList, c < 16 ^ 8) : Shw 0 (10 * x.length + 2) (.str x) := ⟨.str x, rfl, by simp only [PyData.showable], by simp only [PyData.depth]; omega, by simp only [PyData.shown]; exact StrLaws.reprText_len x h⟩
theorem shws_nil (k : Nat) : Shws k 0 [] := ⟨[], rfl, by simp only [PyData.showableAll], by simp only [PyData.depthAll]; omega, by simp only [PyData.shownAll]; decide⟩
theorem shws_cons {k n m : Nat} {d : D} {ds : List D} (h1 : Shw k n d) (h2 : Shws k m ds) : Shws k (n + 2 + m) (d :: ds) := by
  obtain ⟨p, e1, e2, e3, e4⟩ := h1
  obtain ⟨ps, f1, f2, f3, f4⟩ := h2
  refine ⟨p :: ps, by simp only [D.pyds, e1, f1]; rfl, by simp only [PyData.showableAll, e2, f2]; rfl, by simp only [PyData.depthAll]; omega, ?_⟩
  simp only [PyData.shownAll, piled_cons]
  omega
theorem textFrom_le : ∀ (ts : List Str) (k : Nat) (acc : Str), (textFrom k acc ts).length ≤ acc.length + piled ts
  | [], _, acc => by show acc.length ≤ _; omega
  | t :: ts, k, acc => by
    have ih := textFrom_le ts (k + 1) (acc ++ (if k > 0 then ", " else "" : String) ++ t)
    have e : (acc ++ (if k > 0 then ", " else "" : String) ++ t).length = acc.length + (if k > 0 then 2 else 0) + t.length := by
      rw [strLen_append, strLen_append]
      split <;> rfl
    rw [e] at ih
    rw [piled_cons]
    show (textFrom (k + 1) _ ts).length ≤ _
    have : (if k > 0 then 2 else 0) ≤ 2 := by split <;> omega
    omega
theorem shw_lst {k n : Nat} {ds : List D} (h : Shws k n ds) : Shw (k + 1) (n + 2) (.lst ds) := by
  obtain ⟨ps, f1, f2, f3, f4⟩ := h
  refine ⟨.list ps, by simp only [D.pyd, f1]; rfl, by simpa only [PyData.showable] using f2, by simp only [PyData.depth]; omega, ?_⟩
  simp only [PyData.shown]
  unfold listText
  rw [strLen_append]
  have := textFrom_le (PyData.shownAll ps) 0 "["
  have e1 : ((("[" : String) : Str)).length = 1 := rfl
  have e2 : ((("]" : String) : Str)).length = 1 := rfl
  omega
theorem shw_tup {k n : Nat} {ds : List D} (h : Shws k n ds) : Shw (k + 1) (n + 3) (.tup ds) := by
  obtain ⟨ps, f1, f2, f3, f4⟩ := h
  refine ⟨.tuple ps, by simp only [D.pyd, f1]; rfl, by simpa only [PyData.showable] using f2, by simp only [PyData.depth]; omega, ?_⟩
  simp only [PyData.shown]
  unfold tupleText
  rw [strLen_append, strLen_append]
  have e1 : ((("(" : String) : Str)).length = 1 := rfl
  have e3 : (((if (PyData.shownAll ps).length == 1 then ",)" else ")" : String) : Str)).length ≤ 2 := by split <;> decide
  by_cases h : PyData.shownAll ps = []
  · rw [h]
    rw [h] at e3
    have e2 : (Str.join ", " []).length = 0 := rfl
    omega
  · have := join_length_add _ h
    omega
theorem opRepr_e {k n : Nat} {d : D} (h : Shw k n d) (hk : k ≤ 64) (hn : n ≤ lim) : opRepr d = some (.sh (.str (shw d))) := by
  obtain ⟨p, e1, e2, e3, e4⟩ := h
  have c : (p.showable && (decide (p.depth ≤ 64) && decide (p.shown.length ≤ lim))) = true := by
    rw [e2, decide_eq_true (by omega : p.depth ≤ 64), decide_eq_true (by omega : p.shown.length ≤ lim)]
    rfl
  unfold opRepr shw
  rw [e1]
  show (if _ then _ else _) = _
  rw [if_pos c]
@[simp] theorem eq_str' {a b : Str} : opEq (.str a) (.str b) = some (a == b) := rfl
theorem eq_strS {a : Str} : opEq (.str a) (.str a) = some true := by simp
@[simp] theorem ne_str' {a b : Str} : opNe (.str a) (.str b) = some (!(a == b)) := rfl
theorem ne_strS {a : Str} : opNe (.str a) (.str a) = some false := by simp [opNe]
end PM
set_option Elab.async false
set_option linter.all false
set_option maxRecDepth 100000
set_option maxHeartbeats 1200000
namespace PM
open PySem PySem.Spec L2
/-! ### how runs are reckoned: each step's rest stands under a name, so that it is not looked into before its turn -/
section
variable {α β : Type}
def Out.bd (o : Out α) (f : α → State → Out β) : Out β := match o with
  | .ok a st => f a st
  | .exc c st => .exc c st
  | .stuck => .stuck
@[simp] theorem bd_ok {a : α} {st : State} {f : α → State → Out β} : (Out.ok a st).bd f = f a st := rfl
@[simp] theorem bd_exc {c : Exc} {st : State} {f : α → State → Out β} : (Out.exc c st : Out α).bd f = .exc c st := rfl
@[simp] theorem bd_stuck {f : α → State → Out β} : (Out.stuck : Out α).bd f = .stuck := rfl
def Out.th (o : Out α) (f : α → State → SOut) : SOut := match o with
  | .ok a st => f a st
  | .exc c st => .exc c st
  | .stuck => .stuck
@[simp] theorem th_ok {a : α} {st : State} {f : α → State → SOut} : (Out.ok a st).th f = f a st := rfl
@[simp] theorem th_exc {c : Exc} {st : State} {f : α → State → SOut} : (Out.exc c st : Out α).th f = .exc c st := rfl
@[simp] theorem th_stuck {f : α → State → SOut} : (Out.stuck : Out α).th f = .stuck := rfl
theorem bd_bd {γ : Type} {o : Out α} {f : α → State → Out β} {g : β → State → Out γ} : (o.bd f).bd g = o.bd fun a st => (f a st).bd g := by cases o <;> rfl
theorem bd_th {o : Out α} {f : α → State → Out β} {g : β → State → SOut} : (o.bd f).th g = o.th fun a st => (f a st).th g := by cases o <;> rfl
def SOut.sq (o : SOut) (b : MS) : SOut := match o with
  | .nx st' => b st'
  | o => o
@[simp] theorem sq_nx {st : State} {b : MS} : (SOut.nx st).sq b = b st := rfl
@[simp] theorem sq_rt {r : RV} {st : State} {b : MS} : (SOut.rt r st).sq b = .rt r st := rfl
@[simp] theorem sq_exc {r : Exc} {st : State} {b : MS} : (SOut.exc r st).sq b = .exc r st := rfl
@[simp] theorem sq_bk {st : State} {b : MS} : (SOut.bk st).sq b = .bk st := rfl
@[simp] theorem sq_ct {st : State} {b : MS} : (SOut.ct st).sq b = .ct st := rfl
@[simp] theorem sq_stuck {b : MS} : SOut.stuck.sq b = .stuck := rfl
def SOut.lp (o : SOut) (k : MS) : SOut := match o with
  | .nx st' => k st'
  | .ct st' => k st'
  | .bk st' => .nx st'
  | o => o
@[simp] theorem lp_nx {st : State} {k : MS} : (SOut.nx st).lp k = k st := rfl
@[simp] theorem lp_ct {st : State} {k : MS} : (SOut.ct st).lp k = k st := rfl
@[simp] theorem lp_bk {st : State} {k : MS} : (SOut.bk st).lp k = .nx st := rfl
@[simp] theorem lp_rt {st : State} {k : MS} {r : RV} : (SOut.rt r st).lp k = .rt r st := rfl
@[simp] theorem lp_exc {st : State} {k : MS} {r : Exc} : (SOut.exc r st).lp k = .exc r st := rfl
@[simp] theorem lp_stuck {k : MS} : SOut.stuck.lp k = .stuck := rfl
def Out.opt (o : Option α) (st : State) : Out α := match o with
  | some a => .ok a st
  | none => .stuck
variable {st : State} {m a b c : M RV} {ml mr : M (List D)} {t u : M Bool} {x y : MS}
@[simp] theorem opt_some {a : α} : Out.opt (some a) st = .ok a st := rfl
@[simp] theorem opt_none : Out.opt (none : Option α) st = .stuck := rfl
/-- of one value, of two -/
def on1 (g : D → Option α) : Option D → Option α
  | some x => g x
  | none => none
def on2 (g : D → D → Option α) : Option D → Option D → Option α
  | some x, some y => g x y
  | _, _ => none
@[simp] theorem on1_e {g : D → Option α} {x : D} : on1 g (some x) = g x := rfl
@[simp] theorem on2_e {g : D → D → Option α} {x y : D} : on2 g (some x) (some y) = g x y := rfl
@[simp] theorem r_ofO {o : Option α} : M.ofO o st = Out.opt o st := by cases o <;> rfl
@[simp] theorem r_at2 {g : D → D → Option α} {r s : RV} : at2 g r s st = Out.opt (on2 g (view st r) (view st s)) st := by
  simp only [at2]
  cases view st r <;> cases view st s <;> simp [on2]
@[simp] theorem r_at1 {g : D → Option α} {r : RV} : at1 g r st = Out.opt (on1 g (view st r)) st := by
  simp only [at1]
  cases view st r <;> simp [on1]
/-! what is simple -/
@[simp] theorem r_pure {a : α} : M.pure a st = .ok a st := rfl
@[simp] theorem r_mstuck : (M.stuck : M α) st = .stuck := rfl
@[simp] theorem r_mL {d : D} : mL d st = .ok (.sh d) st := rfl
@[simp] theorem r_nx : mNx st = .nx st := rfl
@[simp] theorem r_brk : mBrk st = .bk st := rfl
@[simp] theorem r_cnt : mCnt st = .ct st := rfl
@[simp] theorem r_stk : mStk st = .stuck := rfl
@[simp] theorem r_seq : mSeq x y st = (x st).sq y := rfl
@[simp] theorem r_nil : mNil st = .ok [] st := rfl
@[simp] theorem r_yes : mYes st = .ok true st := rfl
@[simp] theorem r_no : mNo st = .ok none st := rfl
@[simp] theorem bor_sh {d : D} : (RV.sh d).bor = .sh d := rfl
@[simp] theorem bor_lo {i : Nat} : (RV.lo i).bor = .lo i := rfl
@[simp] theorem bor_ow {c : Cell} : (RV.ow c).bor = .sh c.frz := rfl
@[simp] theorem frz_sh {d : D} : RV.frz (.sh d) st = .ok d st := rfl
@[simp] theorem frz_ow {c : Cell} : RV.frz (.ow c) st = .ok c.frz st := rfl
@[simp] theorem frz_lo {i : Nat} : RV.frz (.lo i) st = mVar i st := rfl
@[simp] theorem cfrz_ls {ds : List D} : (Cell.ls ds).frz = .lst ds := rfl
@[simp] theorem cfrz_dc {ds : List (Key × D)} : (Cell.dc ds).frz = .dct ds := rfl
@[simp] theorem slot_sh {d : D} : (RV.sh d).slot = .sh d := rfl
@[simp] theorem slot_ow {c : Cell} : (RV.ow c).slot = .ow c := rfl
@[simp] theorem isLo_sh {d : D} : isLo (.sh d) = false := rfl
@[simp] theorem isLo_ow {d : Cell} : isLo (.ow d) = false := rfl
def RV.fix : RV → State → Out RV
  | .lo i, st => (mVar i st).bd fun d st => .ok (.sh d) st
  | r, st => .ok r st
@[simp] theorem fix_sh {d : D} : RV.fix (.sh d) st = .ok (.sh d) st := rfl
@[simp] theorem fix_ow {c : Cell} : RV.fix (.ow c) st = .ok (.ow c) st := rfl
@[simp] theorem fix_lo {i : Nat} : RV.fix (.lo i) st = (mVar i st).bd fun d st => .ok (.sh d) st := rfl
theorem r_bind {m : M α} {f : α → M β} : M.bind m f st = (m st).bd f := rfl
theorem r_then {m : M α} {f : α → MS} : M.then m f st = (m st).th f := rfl
theorem r_frz : M.frz m st = (m st).bd RV.frz := rfl
theorem r_fix : M.fix m st = (m st).bd RV.fix := by
  show M.bind m _ st = _
  rw [r_bind]
  congr 1
  funext r
  cases r <;> rfl
/-! operations -/
def kOp2 (g : D → D → Option α) (r s : RV) (st : State) : Out α := Out.opt (on2 g (view st r.bor) (view st s.bor)) st
def kOp (g : D → D → Option α) (b : M RV) (r : RV) (st : State) : Out α := (b st).bd (kOp2 g r)
@[simp] theorem kOp2_e {g : D → D → Option α} {r s : RV} : kOp2 g r s st = Out.opt (on2 g (view st r.bor) (view st s.bor)) st := rfl
@[simp] theorem kOp_e {g : D → D → Option α} {r : RV} : kOp g b r st = (b st).bd (kOp2 g r) := rfl
@[simp] theorem r_op {g : D → D → Option RV} : mOp g a b st = (a st).bd (kOp g b) := by
  unfold kOp kOp2
  cases h1 : a st with
  | ok r st1 => cases h2 : b st1 <;> simp [mOp, M.bor, M.bind, M.pure, h1, h2, Out.bd]
  | exc c st1 => simp [mOp, M.bor, M.bind, M.pure, h1, Out.bd]
  | stuck => simp [mOp, M.bor, M.bind, M.pure, h1, Out.bd]
@[simp] theorem r_cmp {g : D → D → Option Bool} : mCmp g a b st = (a st).bd (kOp g b) := by
  unfold kOp kOp2
  cases h1 : a st with
  | ok r st1 => cases h2 : b st1 <;> simp [mCmp, M.bor, M.bind, M.pure, h1, h2, Out.bd]
  | exc c st1 => simp [mCmp, M.bor, M.bind, M.pure, h1, Out.bd]
  | stuck => simp [mCmp, M.bor, M.bind, M.pure, h1, Out.bd]
def kUn (g : D → Option α) (r : RV) (st : State) : Out α := Out.opt (on1 g (view st r.bor)) st
@[simp] theorem kUn_e {g : D → Option α} {r : RV} : kUn g r st = Out.opt (on1 g (view st r.bor)) st := rfl
@[simp] theorem r_un {g : D → Option RV} : mUn g a st = (a st).bd (kUn g) := by
  unfold kUn
  cases h1 : a st <;> simp [mUn, M.bor, M.bind, M.pure, h1, Out.bd]
@[simp] theorem r_Fm : mFm a st = (a st).bd (kUn opFmt) := by
  unfold kUn
  cases h1 : a st <;> simp [mFm, M.bor, M.bind, M.pure, h1, Out.bd]
/-! tests -/
def kBl (b : Bool) (st : State) : Out RV := .ok (.sh (.bl b)) st
@[simp] theorem kBl_e {b : Bool} : kBl b st = .ok (.sh (.bl b)) st := rfl
@[simp] theorem r_bl : mBl t st = (t st).bd kBl := rfl
def kAnd (u : M Bool) (c : Bool) (st : State) : Out Bool := if c then u st else .ok false st
@[simp] theorem kAnd_t : kAnd u true st = u st := rfl
@[simp] theorem kAnd_f : kAnd u false st = .ok false st := rfl
def kOr (u : M Bool) (c : Bool) (st : State) : Out Bool := if c then .ok true st else u st
@[simp] theorem kOr_t : kOr u true st = .ok true st := rfl
@[simp] theorem kOr_f : kOr u false st = u st := rfl
def kNot (c : Bool) (st : State) : Out Bool := .ok (!c) st
@[simp] theorem kNot_e {c : Bool} : kNot c st = .ok (!c) st := rfl
def kIf (a b : M α) (c : Bool) (st : State) : Out α := if c then a st else b st
@[simp] theorem kIf_t {a b : M α} : kIf a b true st = a st := rfl
@[simp] theorem kIf_f {a b : M α} : kIf a b false st = b st := rfl
def kIfS (a b : MS) (c : Bool) (st : State) : SOut := if c then a st else b st
@[simp] theorem kIfS_t {a b : MS} : kIfS a b true st = a st := rfl
@[simp] theorem kIfS_f {a b : MS} : kIfS a b false st = b st := rfl
@[simp] theorem r_and : mAnd t u st = (t st).bd (kAnd u) := by
  show M.bind t _ st = _
  rw [r_bind]; congr 1; funext c st; cases c <;> rfl
@[simp] theorem r_or : mOr t u st = (t st).bd (kOr u) := by
  show M.bind t _ st = _
  rw [r_bind]; congr 1; funext c st; cases c <;> rfl
@[simp] theorem r_not : mNot t st = (t st).bd kNot := rfl
@[simp] theorem r_if {a b : M α} : mIf t a b st = (t st).bd (kIf a b) := by
  show M.bind t _ st = _
  rw [r_bind]; congr 1; funext c st; cases c <;> rfl
@[simp] theorem r_ifs : mIfS t x y st = (t st).th (kIfS x y) := by
  show M.then t _ st = _
  rw [r_then]; congr 1; funext c st; cases c <;> rfl
def toB : RV → State → Out Bool
  | .sh (.bl b), st => .ok b st
  | _, _ => .stuck
@[simp] theorem toB_bl {b : Bool} : toB (.sh (.bl b)) st = .ok b st := rfl
@[simp] theorem r_B : mB m st = (m st).bd toB := by
  show M.bind m _ st = _
  rw [r_bind]; congr 1; funext r st
  cases r with
  | sh d => cases d <;> rfl
  | ow c => rfl
  | lo i => rfl
/-! arguments, displays -/
def kC3 (x : D) (xs : List D) (st : State) : Out (List D) := .ok (x :: xs) st
def kC2 (ml : M (List D)) (x : D) (st : State) : Out (List D) := (ml st).bd (kC3 x)
def kC1 (ml : M (List D)) (r : RV) (st : State) : Out (List D) := (RV.frz r st).bd (kC2 ml)
@[simp] theorem kC3_e {x : D} {xs : List D} : kC3 x xs st = .ok (x :: xs) st := rfl
@[simp] theorem kC2_e {x : D} : kC2 ml x st = (ml st).bd (kC3 x) := rfl
@[simp] theorem kC1_e {r : RV} : kC1 ml r st = (RV.frz r st).bd (kC2 ml) := rfl
@[simp] theorem r_cons : mCons a ml st = (a st).bd (kC1 ml) := by
  show ((a st).bd RV.frz).bd (kC2 ml) = (a st).bd (kC1 ml)
  cases a st <;> rfl
def kTup (xs : List D) (st : State) : Out RV := if xs.length ≤ lim then .ok (.sh (.tup xs)) st else .stuck
def kLst (xs : List D) (st : State) : Out RV := if xs.length ≤ lim then .ok (.ow (.ls xs)) st else .stuck
theorem kTup_e {xs : List D} (h : xs.length ≤ lim) : kTup xs st = .ok (.sh (.tup xs)) st := if_pos h
theorem kLst_e {xs : List D} (h : xs.length ≤ lim) : kLst xs st = .ok (.ow (.ls xs)) st := if_pos h
@[simp] theorem kTup_0 : kTup [] st = .ok (.sh (.tup [])) st := rfl
@[simp] theorem kTup_1 {a : D} : kTup [a] st = .ok (.sh (.tup [a])) st := kTup_e (by simp [lim])
@[simp] theorem kTup_2 {a b : D} : kTup [a, b] st = .ok (.sh (.tup [a, b])) st := kTup_e (by simp [lim])
@[simp] theorem kTup_3 {a b c : D} : kTup [a, b, c] st = .ok (.sh (.tup [a, b, c])) st := kTup_e (by simp [lim])
@[simp] theorem kTup_4 {a b c d : D} : kTup [a, b, c, d] st = .ok (.sh (.tup [a, b, c, d])) st := kTup_e (by simp [lim])
@[simp] theorem kLst_0 : kLst [] st = .ok (.ow (.ls [])) st := rfl
@[simp] theorem kLst_1 {a : D} : kLst [a] st = .ok (.ow (.ls [a])) st := kLst_e (by simp [lim])
@[simp] theorem kLst_2 {a b : D} : kLst [a, b] st = .ok (.ow (.ls [a, b])) st := kLst_e (by simp [lim])
@[simp] theorem kLst_3 {a b c : D} : kLst [a, b, c] st = .ok (.ow (.ls [a, b, c])) st := kLst_e (by simp [lim])
@[simp] theorem kLst_4 {a b c d : D} : kLst [a, b, c, d] st = .ok (.ow (.ls [a, b, c, d])) st := kLst_e (by simp [lim])
@[simp] theorem r_tup : mTup ml st = (ml st).bd kTup := by
  show M.bind ml _ st = _
  rw [r_bind]; congr 1; funext xs st
  show M.small _ _ st = _
  unfold M.small kTup
  by_cases h : xs.length ≤ lim
  · rw [if_pos h, if_pos h]; rfl
  · rw [if_neg h, if_neg h]; rfl
@[simp] theorem r_lst : mLst ml st = (ml st).bd kLst := by
  show M.bind ml _ st = _
  rw [r_bind]; congr 1; funext xs st
  show M.small _ _ st = _
  unfold M.small kLst
  by_cases h : xs.length ≤ lim
  · rw [if_pos h, if_pos h]; rfl
  · rw [if_neg h, if_neg h]; rfl
/-! statements -/
def kSet2 (i : Nat) (r : RV) (st : State) : SOut := .nx { st with env := st.env.set i r.slot }
def kSet (i : Nat) (r : RV) (st : State) : SOut := (RV.fix r st).th (kSet2 i)
@[simp] theorem kSet2_e {i : Nat} {r : RV} : kSet2 i r st = .nx { st with env := st.env.set i r.slot } := rfl
@[simp] theorem kSet_e {i : Nat} {r : RV} : kSet i r st = (RV.fix r st).th (kSet2 i) := rfl
@[simp] theorem r_set {i : Nat} : mSet i m st = (m st).th (kSet i) := by
  show (M.fix m st).th (kSet2 i) = _
  rw [r_fix, bd_th]; rfl
def kRet2 (r : RV) (st : State) : SOut := .rt r st
def kRet (r : RV) (st : State) : SOut := (RV.fix r st).th kRet2
@[simp] theorem kRet2_e {r : RV} : kRet2 r st = .rt r st := rfl
@[simp] theorem kRet_e {r : RV} : kRet r st = (RV.fix r st).th kRet2 := rfl
@[simp] theorem r_ret : mRet m st = (m st).th kRet := by
  show (M.fix m st).th kRet2 = _
  rw [r_fix, bd_th]; rfl
def kDrop (r : RV) (st : State) : SOut := .nx st
@[simp] theorem kDrop_e {r : RV} : kDrop r st = .nx st := rfl
@[simp] theorem r_drop : mDrop m st = (m st).th kDrop := rfl
def kP4 (i j : Nat) (r s : RV) (st : State) : SOut := if isLo s then .stuck else .nx { st with env := (st.env.set i r.slot).set j s.slot }
def kP3 (i j : Nat) (r s : RV) (st : State) : SOut := (RV.fix s st).th (kP4 i j r)
def kP2 (i j : Nat) (b : M RV) (r : RV) (st : State) : SOut := (b st).th (kP3 i j r)
def kP1 (i j : Nat) (b : M RV) (r : RV) (st : State) : SOut := (RV.fix r st).th (kP2 i j b)
@[simp] theorem kP4_e {i j : Nat} {r s : RV} : kP4 i j r s st = if isLo s then .stuck else .nx { st with env := (st.env.set i r.slot).set j s.slot } := rfl
@[simp] theorem kP3_e {i j : Nat} {r s : RV} : kP3 i j r s st = (RV.fix s st).th (kP4 i j r) := rfl
@[simp] theorem kP2_e {i j : Nat} {r : RV} : kP2 i j b r st = (b st).th (kP3 i j r) := rfl
@[simp] theorem kP1_e {i j : Nat} {r : RV} : kP1 i j b r st = (RV.fix r st).th (kP2 i j b) := rfl
@[simp] theorem r_par {i j : Nat} : mPar i j a b st = (a st).th (kP1 i j b) := by
  show (M.fix a st).th (fun r st => (M.fix b st).th (fun s st => if isLo s then SOut.stuck else .nx { st with env := (st.env.set i r.slot).set j s.slot })) = _
  rw [r_fix, bd_th]
  congr 1
  funext r st
  show _ = (RV.fix r st).th (kP2 i j b)
  congr 1
  funext r st
  rw [r_fix, bd_th]
  rfl
def kG2 (o : Option State) : SOut := match o with
  | some st' => .nx st'
  | none => .stuck
@[simp] theorem kG2_s {st : State} : kG2 (some st) = .nx st := rfl
@[simp] theorem kG2_n : kG2 none = .stuck := rfl
def kG1 (g : D → State → Option State) (d : D) (st : State) : SOut := kG2 (g d st)
def kG (g : D → State → Option State) (r : RV) (st : State) : SOut := (RV.frz r st).th (kG1 g)
@[simp] theorem kG1_e {g : D → State → Option State} {d : D} : kG1 g d st = kG2 (g d st) := rfl
@[simp] theorem kG_e {g : D → State → Option State} {r : RV} : kG g r st = (RV.frz r st).th (kG1 g) := rfl
@[simp] theorem r_asg {g : D → State → Option State} : mAsg g m st = (m st).th (kG g) := by
  show ((m st).bd RV.frz).th (kG1 g) = (m st).th (kG g)
  cases m st <;> rfl
@[simp] theorem r_gN {i : Nat} {d : D} : gN i d st = some { st with env := st.env.set i (.sh d) } := rfl
@[simp] theorem r_gnil : gsNil [] st = some st := rfl
@[simp] theorem r_gcons {g : D → State → Option State} {r : List D → State → Option State} {d : D} {ds : List D} : gsCons g r (d :: ds) st = (g d st).bind (r ds) := rfl
@[simp] theorem r_gT {n : Nat} {r : List D → State → Option State} {ds : List D} : gT n r (.tup ds) st = if ds.length = n then r ds st else none := rfl
/-! loops -/
@[simp] theorem r_while {f : State → Nat} : mWhile f t x st = mWhileN (f st) t x st := rfl
def kW (n : Nat) (t : M Bool) (x : MS) (k : Bool) (st : State) : SOut := if k then (x st).lp (mWhileN n t x) else .nx st
@[simp] theorem kW_t {n : Nat} : kW n t x true st = (x st).lp (mWhileN n t x) := rfl
@[simp] theorem kW_f {n : Nat} : kW n t x false st = .nx st := rfl
theorem r_whiles {n : Nat} : mWhileN (n + 1) t x st = (t st).th (kW n t x) := by
  show M.then t _ st = _
  rw [r_then]; congr 1; funext c st; cases c with
  | false => rfl
  | true =>
    show _ = (x st).lp (mWhileN n t x)
    cases h : x st <;> simp [h, SOut.lp]
def kF (g : D → State → Option State) (x : MS) (ds : List D) (st : State) : SOut := mForL g x ds st
@[simp] theorem kF_e {g : D → State → Option State} {ds : List D} : kF g x ds st = mForL g x ds st := rfl
@[simp] theorem r_for {it : M (List D)} {g : D → State → Option State} : mFor it g x st = (it st).th (kF g x) := rfl
def kFb (x k : MS) (o : Option State) : SOut := match o with
  | some st1 => (x st1).lp k
  | none => .stuck
@[simp] theorem kFb_s {k : MS} : kFb x k (some st) = (x st).lp k := rfl
@[simp] theorem kFb_n {k : MS} : kFb x k none = .stuck := rfl
theorem r_fors {g : D → State → Option State} {d : D} {ds : List D} : mForL g x (d :: ds) st = kFb x (mForL g x ds) (g d st) := by
  simp only [mForL]
  cases g d st with
  | none => rfl
  | some st1 => simp only; cases h : x st1 <;> simp [kFb, h]
/-! methods -/
def kM3 (g : D → D → Option RV) (r s : RV) (st : State) : Out RV := Out.opt (on2 g (view st r.bor) (view st s.bor)) st
def kM2 (g : D → D → Option RV) (b : M RV) (r : RV) (_ : Unit) (st : State) : Out RV := (b st).bd (kM3 g r)
def kM (q : D → Option Unit) (g : D → D → Option RV) (b : M RV) (r : RV) (st : State) : Out RV := (Out.opt (on1 q (view st r.bor)) st).bd (kM2 g b r)
@[simp] theorem kM3_e {g : D → D → Option RV} {r s : RV} : kM3 g r s st = Out.opt (on2 g (view st r.bor) (view st s.bor)) st := rfl
@[simp] theorem kM2_e {g : D → D → Option RV} {r : RV} {u : Unit} : kM2 g b r u st = (b st).bd (kM3 g r) := rfl
@[simp] theorem kM_e {q : D → Option Unit} {g : D → D → Option RV} {r : RV} : kM q g b r st = (Out.opt (on1 q (view st r.bor)) st).bd (kM2 g b r) := rfl
@[simp] theorem isSt_e {z : Str} : isSt (.str z) = some () := rfl
@[simp] theorem isLst_e {z : List D} : isLst (.lst z) = some () := rfl
@[simp] theorem r_mS1 {g : D → D → Option RV} : mS1 g a b st = (a st).bd (kM isSt g b) := by
  have e : ∀ r st, (M.bind (at1 isSt (RV.bor r)) fun _ => M.bind (M.bor b) fun s => at2 g (RV.bor r) s) st = kM isSt g b r st := fun r st => by
    show (at1 isSt r.bor st).bd (fun _ st => ((b st).bd fun s st => .ok s.bor st).bd fun s st => at2 g r.bor s st) = (Out.opt (on1 isSt (view st r.bor)) st).bd (kM2 g b r)
    rw [r_at1]
    congr 1; funext u st
    show _ = (b st).bd (kM3 g r)
    rw [bd_bd]
    congr 1; funext s st
    exact r_at2
  show ((a st).bd fun r st => .ok r.bor st).bd (fun r => M.bind (at1 isSt r) fun _ => M.bind (M.bor b) fun s => at2 g r s) = _
  cases a st with
  | ok r st => exact e r st
  | exc c st => rfl
  | stuck => rfl
@[simp] theorem r_mL1 {g : D → D → Option RV} : mL1 g a b st = (a st).bd (kM isLst g b) := by
  have e : ∀ r st, (M.bind (at1 isLst (RV.bor r)) fun _ => M.bind (M.bor b) fun s => at2 g (RV.bor r) s) st = kM isLst g b r st := fun r st => by
    show (at1 isLst r.bor st).bd (fun _ st => ((b st).bd fun s st => .ok s.bor st).bd fun s st => at2 g r.bor s st) = (Out.opt (on1 isLst (view st r.bor)) st).bd (kM2 g b r)
    rw [r_at1]
    congr 1; funext u st
    show _ = (b st).bd (kM3 g r)
    rw [bd_bd]
    congr 1; funext s st
    exact r_at2
  show ((a st).bd fun r st => .ok r.bor st).bd (fun r => M.bind (at1 isLst r) fun _ => M.bind (M.bor b) fun s => at2 g r s) = _
  cases a st with
  | ok r st => exact e r st
  | exc c st => rfl
  | stuck => rfl
def kIt2 (d : D) (st : State) : Out (List D) := Out.opt (asIt d) st
@[simp] theorem asIt_t {ds : List D} : asIt (.tup ds) = some ds := rfl
@[simp] theorem asIt_l {ds : List D} : asIt (.lst ds) = some ds := rfl
@[simp] theorem asIt_d {kvs : List (Key × D)} : asIt (.dct kvs) = some (kvs.map fun kv => keyD kv.1) := rfl
def kIt (r : RV) (st : State) : Out (List D) := (RV.frz r st).bd kIt2
@[simp] theorem kIt2_e {d : D} : kIt2 d st = Out.opt (asIt d) st := rfl
@[simp] theorem kIt_e {r : RV} : kIt r st = (RV.frz r st).bd kIt2 := rfl
@[simp] theorem r_it : mIt a st = (a st).bd kIt := by
  have e : (fun d => M.ofO (asIt d)) = kIt2 := by funext d st; exact r_ofO
  show ((a st).bd RV.frz).bd (fun d => M.ofO (asIt d)) = _
  rw [e]
  cases a st <;> rfl
/-! calls -/
def kCall (n : Nat) (F : Fn) (ds : List D) (st : State) : Out RV := if ds.length = n then ofF st (F ds st.store) else .stuck
@[simp] theorem kCall_0 {F : Fn} : kCall 0 F [] st = ofF st (F [] st.store) := rfl
@[simp] theorem kCall_1 {F : Fn} {a : D} : kCall 1 F [a] st = ofF st (F [a] st.store) := rfl
@[simp] theorem kCall_2 {F : Fn} {a b : D} : kCall 2 F [a, b] st = ofF st (F [a, b] st.store) := rfl
@[simp] theorem kCall_3 {F : Fn} {a b c : D} : kCall 3 F [a, b, c] st = ofF st (F [a, b, c] st.store) := rfl
@[simp] theorem kCall_4 {F : Fn} {a b c d : D} : kCall 4 F [a, b, c, d] st = ofF st (F [a, b, c, d] st.store) := rfl
@[simp] theorem r_call {n : Nat} {F : Fn} : mCall n F ml st = (ml st).bd (kCall n F) := by
  show (ml st).bd (fun ds st => if ds.length = n then ofF st (F ds st.store) else .stuck) = _
  rfl
@[simp] theorem ofF_sh {d : D} {store : List Cell} : ofF st (.ret (.sh d) store) = .ok (.sh d) { st with store := store } := rfl
@[simp] theorem ofF_ow {d : Cell} {store : List Cell} : ofF st (.ret (.ow d) store) = .ok (.ow d) { st with store := store } := rfl
@[simp] theorem ofF_exc {c : Exc} {store : List Cell} : ofF st (.exc c store) = .exc c { st with store := store } := rfl
@[simp] theorem toF_sh {d : D} : toF (.rt (.sh d) st) = .ret (.sh d) st.store := rfl
@[simp] theorem toF_ow {d : Cell} : toF (.rt (.ow d) st) = .ret (.ow d) st.store := rfl
@[simp] theorem toF_nx : toF (.nx st) = .ret (.sh .non) st.store := rfl
@[simp] theorem toF_exc {c : Exc} : toF (.exc c st) = .exc c st.store := rfl
/-! what values look like -/
@[simp] theorem view_non : view st (.sh .non) = some .non := rfl
@[simp] theorem view_bl {x : Bool} : view st (.sh (.bl x)) = some (.bl x) := rfl
@[simp] theorem view_int {x : Int} : view st (.sh (.int x)) = some (.int x) := rfl
@[simp] theorem view_str {x : Str} : view st (.sh (.str x)) = some (.str x) := rfl
@[simp] theorem view_tup {x : List D} : view st (.sh (.tup x)) = some (.tup x) := rfl
@[simp] theorem view_lst {x : List D} : view st (.sh (.lst x)) = some (.lst x) := rfl
@[simp] theorem view_lsF {x : List D} : view st (.sh (.lsF x)) = some (.lsF x) := rfl
@[simp] theorem view_tpF {x : List D} : view st (.sh (.tpF x)) = some (.tpF x) := rfl
@[simp] theorem view_dct {x : List (Key × D)} : view st (.sh (.dct x)) = some (.dct x) := rfl
@[simp] theorem view_rcd {C : Str} {x : List (Str × D)} : view st (.sh (.rcd C x)) = some (.rcd C x) := rfl
@[simp] theorem view_val {x : V} : view st (.sh (.val x)) = some (.val x) := rfl
theorem view_lo {i : Nat} : view st (.lo i) = match st.env[i]? with
  | some (.sh d) => some d
  | some (.ow c) => some c.frz
  | _ => none := rfl
theorem view_dc {n : Nat} {kvs : List (Key × D)} (h : st.store[n]? = some (.dc kvs)) : view st (.sh (.obj n)) = some (.dct kvs) := by simp only [view, h]
end
@[simp] theorem atI_0 {α : Type} {x : α} {xs : List α} : atI (x :: xs) 0 = some x := atI_nat (j := 0) rfl
@[simp] theorem atI_1 {α : Type} {x y : α} {xs : List α} : atI (x :: y :: xs) 1 = some y := atI_nat (j := 1) rfl
@[simp] theorem atI_2 {α : Type} {x y z : α} {xs : List α} : atI (x :: y :: z :: xs) 2 = some z := atI_nat (j := 2) rfl
theorem sml_of {i : Int} {k : Nat} (h : i.natAbs < 2 ^ k) (hk : k ≤ 399999) : sml i = true := by
  unfold sml
  by_cases h0 : i.natAbs = 0
  · rw [h0]; decide
  · exact decide_eq_true (Nat.lt_of_lt_of_le ((Nat.log2_lt h0).mpr h) (by omega))
/-! the operations -/
@[simp] theorem opAdd_i {i j : Int} : opAdd (.int i) (.int j) = some (.sh (.int (i + j))) := rfl
@[simp] theorem opSub_i {i j : Int} : opSub (.int i) (.int j) = some (.sh (.int (i - j))) := rfl
@[simp] theorem opMul_i {i j : Int} (h1 : sml i = true) (h2 : sml j = true) : opMul (.int i) (.int j) = some (.sh (.int (i * j))) := by simp [opMul, h1, h2]
@[simp] theorem opFdv_i {i j : Int} (h1 : 0 < j) (h2 : j.natAbs.log2 < 9000) : opFdv (.int i) (.int j) = some (.sh (.int (i / j))) := by simp [opFdv, h1, h2]
@[simp] theorem opMod_i {i j : Int} (h1 : 0 < j) : opMod (.int i) (.int j) = some (.sh (.int (i % j))) := by simp [opMod, h1]
@[simp] theorem opNeg_i {i : Int} : opNeg (.int i) = some (.sh (.int (-i))) := rfl
@[simp] theorem opAbs_i {i : Int} : opAbs (.int i) = some (.sh (.int (i.natAbs : Int))) := by
  have e : (if i < 0 then -i else i) = (i.natAbs : Int) := by split <;> omega
  show some (RV.sh (.int (if i < 0 then -i else i))) = _
  rw [e]
@[simp] theorem opLt_i {i j : Int} : opLt (.int i) (.int j) = some (decide (i < j)) := rfl
@[simp] theorem opLe_i {i j : Int} : opLe (.int i) (.int j) = some (decide (i ≤ j)) := rfl
@[simp] theorem opGt_i {i j : Int} : opGt (.int i) (.int j) = some (decide (j < i)) := rfl
@[simp] theorem opGe_i {i j : Int} : opGe (.int i) (.int j) = some (decide (j ≤ i)) := rfl
@[simp] theorem opIx_t {ds : List D} {i : Int} : opIx (.tup ds) (.int i) = (atI ds i).map .sh := rfl
@[simp] theorem opIx_l {ds : List D} {i : Int} : opIx (.lst ds) (.int i) = (atI ds i).map .sh := rfl
@[simp] theorem opIx_d {kvs : List (Key × D)} {k : D} : opIx (.dct kvs) k = (asKey k).bind fun k => (dget kvs k).map .sh := by cases k <;> rfl
end PM
set_option Elab.async false
set_option linter.all false
set_option maxRecDepth 100000
set_option maxHeartbeats 1200000
namespace PM
open PySem PySem.Spec L2
section
variable {st : State} {a b c m : M RV} {own : List Nat} {g : D → State → Option State} {t : M Bool} {e : M RV} {it : M (List D)}
/-! ### comprehensions -/
def kCo2 (o : Out (List D)) : Out RV := match o with
  | .ok xs st' => .ok (.ow (.ls xs)) st'
  | _ => .stuck
@[simp] theorem kCo2_e {xs : List D} : kCo2 (.ok xs st) = .ok (.ow (.ls xs)) st := rfl
def kCo (own : List Nat) (g : D → State → Option State) (t : M Bool) (e : M RV) (ds : List D) (st : State) : Out RV := kCo2 (mCompL own g t e ds [] (st.wipe own))
theorem kCo_e {ds : List D} : kCo own g t e ds st = kCo2 (mCompL own g t e ds [] (st.wipe own)) := rfl
@[simp] theorem r_comp : mComp own it g t e st = (it st).bd (kCo own g t e) := by
  show (it st).bd (fun ds st => match mCompL own g t e ds [] (st.wipe own) with
    | .ok xs st' => Out.ok (RV.ow (.ls xs)) st'
    | _ => .stuck) = _
  congr 1
/-- the items that pass f, each made into k of it -/
theorem compL_filter (f : D → Bool) (k : D → D) {st0 : State} (hw : st0.wipe own = st0) : ∀ (ds acc : List D), acc.length + ds.length ≤ lim → (∀ d ∈ ds, ∃ st1 st2, g d st0 = some st1 ∧ t st1 = .ok (f d) st2 ∧ (f d = false → st2.wipe own = st0) ∧ (f d = true → ∃ st3, e.frz st2 = .ok (k d) st3 ∧ st3.wipe own = st0)) →
    mCompL own g t e ds acc st0 = .ok (acc ++ (ds.filter f).map k) st0
  | [], acc, _, _ => by simp [mCompL]
  | d :: ds, acc, hl, h => by
    obtain ⟨st1, st2, h1, h2, h3, h4⟩ := h d (List.mem_cons_self ..)
    have hl' : acc.length + (ds.length + 1) ≤ lim := hl
    have rest : ∀ acc' : List D, acc'.length + ds.length ≤ lim → mCompL own g t e ds acc' st0 = .ok (acc' ++ (ds.filter f).map k) st0 := fun acc' hl => compL_filter f k hw ds acc' hl fun d' m => h d' (List.mem_cons_of_mem _ m)
    simp only [mCompL, hw, h1, h2]
    cases e1 : f d with
    | false =>
      simp only [h3 e1, rest acc (by omega), List.filter_cons, e1]
      rfl
    | true =>
      obtain ⟨st3, h5, h6⟩ := h4 e1
      simp only [h5, h6]
      rw [if_pos (by omega), rest (acc ++ [k d]) (by rw [List.length_append]; show acc.length + 1 + ds.length ≤ lim; omega), List.filter_cons, e1]
      simp
theorem comp_filter (f : D → Bool) (k : D → D) {ds : List D} (hl : ds.length ≤ lim) (h : ∀ d ∈ ds, ∃ st1 st2, g d (st.wipe own) = some st1 ∧ t st1 = .ok (f d) st2 ∧ (f d = false → st2.wipe own = st.wipe own) ∧ (f d = true → ∃ st3, e.frz st2 = .ok (k d) st3 ∧ st3.wipe own = st.wipe own))
    (hw : (st.wipe own).wipe own = st.wipe own) : kCo own g t e ds st = .ok (.ow (.ls ((ds.filter f).map k))) (st.wipe own) := by
  rw [kCo_e, compL_filter f k hw ds [] (by simpa using hl) h]
  rfl
@[simp] theorem wipe_e {env : List Slot} {s : List Cell} : State.wipe ⟨env, s⟩ own = ⟨wipeE env own, s⟩ := rfl
@[simp] theorem wipeE_n {env : List Slot} : wipeE env [] = env := rfl
@[simp] theorem wipeE_1 {env : List Slot} {i : Nat} {is : List Nat} : wipeE env (i :: is) = (wipeE env is).set i .un := rfl
/-! ### d[k] = v -/
def kU (o : Option (D × State)) : SOut := match o with
  | some (_, st') => .nx st'
  | none => .stuck
@[simp] theorem kU_s {d : D} : kU (some (d, st)) = .nx st := rfl
@[simp] theorem kU_n : kU none = .stuck := rfl
def kU4 (d : D) (r : RV) (kd : D) (st : State) : SOut := kU (upC (putC kd d) r.bor st)
def kU3 (d : D) (r : RV) (s : RV) (st : State) : SOut := (RV.frz s st).th (kU4 d r)
def kU2 (k : M RV) (d : D) (r : RV) (st : State) : SOut := (k st).th (kU3 d r)
def kU1 (a k : M RV) (d : D) (st : State) : SOut := (a st).th (kU2 k d)
def kU0 (a k : M RV) (r : RV) (st : State) : SOut := (RV.frz r st).th (kU1 a k)
@[simp] theorem kU4_e {d kd : D} {r : RV} : kU4 d r kd st = kU (upC (putC kd d) r.bor st) := rfl
@[simp] theorem kU3_e {d : D} {r s : RV} : kU3 d r s st = (RV.frz s st).th (kU4 d r) := rfl
@[simp] theorem kU2_e {d : D} {r : RV} : kU2 b d r st = (b st).th (kU3 d r) := rfl
@[simp] theorem kU1_e {d : D} : kU1 a b d st = (a st).th (kU2 b d) := rfl
@[simp] theorem kU0_e {r : RV} : kU0 a b r st = (RV.frz r st).th (kU1 a b) := rfl
@[simp] theorem r_put : mPut a b c st = (c st).th (kU0 a b) := by
  have e3 : ∀ (d : D) (r : RV) (st : State), (M.frz b).then (fun kd st => match upC (putC kd d) r.bor.bor st with
      | some (_, st') => SOut.nx st'
      | none => .stuck) st = kU2 b d r st := fun d r st => by
    have eb : r.bor.bor = r.bor := by cases r <;> rfl
    rw [eb]
    have e4 : ∀ (s : RV) (st : State), (RV.frz s st).th (fun kd st => match upC (putC kd d) r.bor st with
      | some (_, st') => SOut.nx st'
      | none => .stuck) = kU3 d r s st := fun s st => by
      show _ = (RV.frz s st).th (kU4 d r)
      congr 1
    show ((b st).bd RV.frz).th _ = (b st).th (kU3 d r)
    cases b st with
    | ok s st1 => exact e4 s st1
    | exc c st1 => rfl
    | stuck => rfl
  have e2 : ∀ (d : D) (st : State), (M.bind a fun r => M.pure r.bor).then (fun r => (M.frz b).then (fun kd st => match upC (putC kd d) r.bor st with
      | some (_, st') => SOut.nx st'
      | none => .stuck)) st = kU1 a b d st := fun d st => by
    show ((a st).bd fun r st => .ok r.bor st).th _ = (a st).th (kU2 b d)
    cases a st with
    | ok r st1 => exact e3 d r st1
    | exc c st1 => rfl
    | stuck => rfl
  have e5 : ∀ (r : RV) (st : State), (RV.frz r st).th (fun d => (M.bind a fun r => M.pure r.bor).then (fun r => (M.frz b).then (fun kd st => match upC (putC kd d) r.bor st with
      | some (_, st') => SOut.nx st'
      | none => .stuck))) = kU0 a b r st := fun r st => by
    show _ = (RV.frz r st).th (kU1 a b)
    congr 1
    funext d st2
    exact e2 d st2
  show ((c st).bd RV.frz).th _ = (c st).th (kU0 a b)
  cases c st with
  | ok r st1 => exact e5 r st1
  | exc c st1 => rfl
  | stuck => rfl
/-! ### slices -/
def kPt (r : RV) (st : State) : Out (Option Int) := match r with
  | .sh (.int i) => .ok (some i) st
  | _ => .stuck
@[simp] theorem kPt_e {i : Int} : kPt (.sh (.int i)) st = .ok (some i) st := rfl
@[simp] theorem r_pt : mPt m st = (m st).bd kPt := by
  show M.bind m _ st = _
  rw [r_bind]; congr 1; funext r st
  cases r with
  | sh d => cases d <;> rfl
  | ow c => rfl
  | lo i => rfl
def kS2 (r : RV) (l h : Option Int) (st : State) : Out RV := Out.opt (on1 (fun x => opSl x l h) (view st r.bor)) st
def kS1 (hi : M (Option Int)) (r : RV) (l : Option Int) (st : State) : Out RV := (hi st).bd (kS2 r l)
def kS0 (lo hi : M (Option Int)) (r : RV) (st : State) : Out RV := (lo st).bd (kS1 hi r)
@[simp] theorem kS2_e {r : RV} {l h : Option Int} : kS2 r l h st = Out.opt (on1 (fun x => opSl x l h) (view st r.bor)) st := rfl
@[simp] theorem kS1_e {hi : M (Option Int)} {r : RV} {l : Option Int} : kS1 hi r l st = (hi st).bd (kS2 r l) := rfl
@[simp] theorem kS0_e {lo hi : M (Option Int)} {r : RV} : kS0 lo hi r st = (lo st).bd (kS1 hi r) := rfl
@[simp] theorem r_sl {lo hi : M (Option Int)} : mSl a lo hi st = (a st).bd (kS0 lo hi) := by
  have e : ∀ (r : RV) (st : State), (M.bind lo fun l => M.bind hi fun h => at1 (fun x => opSl x l h) r.bor) st = kS0 lo hi r st := fun r st => by
    show (lo st).bd _ = (lo st).bd (kS1 hi r)
    congr 1; funext l st
    show (hi st).bd _ = (hi st).bd (kS2 r l)
    congr 1; funext h st
    exact r_at1
  show ((a st).bd fun r st => .ok r.bor st).bd (fun r => M.bind lo fun l => M.bind hi fun h => at1 (fun x => opSl x l h) r) = _
  cases a st with
  | ok r st => exact e r st
  | exc c st => rfl
  | stuck => rfl
/-! ### f'..' -/
def kJ (ms : List (M RV)) (acc : Str) (r : RV) (st : State) : Out Str := match r with
  | .sh (.str z) => if (acc ++ z).length ≤ lim then mJs ms (acc ++ z) st else .stuck
  | _ => .stuck
@[simp] theorem r_js0 {acc : Str} : mJs [] acc st = .ok acc st := rfl
@[simp] theorem r_js {m : M RV} {ms : List (M RV)} {acc : Str} : mJs (m :: ms) acc st = (m st).bd (kJ ms acc) := by
  show M.bind m _ st = _
  rw [r_bind]; congr 1; funext r st
  cases r with
  | sh d =>
    cases d <;> try rfl
    rename_i z
    show (if (acc ++ z).length ≤ lim then mJs ms (acc ++ z) else M.stuck) st = (if (acc ++ z).length ≤ lim then mJs ms (acc ++ z) st else .stuck)
    split <;> rfl
  | ow c => rfl
  | lo i => rfl
def kJo (z : Str) (st : State) : Out RV := .ok (.sh (.str z)) st
@[simp] theorem kJo_e {z : Str} : kJo z st = .ok (.sh (.str z)) st := rfl
@[simp] theorem r_join {ms : List (M RV)} : mJoin ms st = (mJs ms Str.empty st).bd kJo := rfl
/-! ### new things -/
def kNew (r : RV) (st : State) : Out RV := match r with
  | .ow c => .ok (.sh (.obj st.store.length)) { st with store := st.store ++ [c] }
  | _ => .stuck
@[simp] theorem kNew_e {c : Cell} : kNew (.ow c) st = .ok (.sh (.obj st.store.length)) { st with store := st.store ++ [c] } := rfl
@[simp] theorem r_new : mNew m st = (m st).bd kNew := by
  show (m st).bd (fun r st => match r with
    | .ow c => (Out.ok (RV.sh (.obj st.store.length)) { st with store := st.store ++ [c] } : Out RV)
    | _ => .stuck) = _
  congr 1
def kD3 (x y : D) (ps : List (D × D)) (st : State) : Out (List (D × D)) := .ok ((x, y) :: ps) st
def kD2 (r : List (M RV × M RV)) (x y : D) (st : State) : Out (List (D × D)) := (mPr r st).bd (kD3 x y)
def kD1' (r : List (M RV × M RV)) (x : D) (s : RV) (st : State) : Out (List (D × D)) := (RV.frz s st).bd (kD2 r x)
def kD1 (v : M RV) (r : List (M RV × M RV)) (x : D) (st : State) : Out (List (D × D)) := (v st).bd (kD1' r x)
def kD0 (v : M RV) (r : List (M RV × M RV)) (s : RV) (st : State) : Out (List (D × D)) := (RV.frz s st).bd (kD1 v r)
variable {r : List (M RV × M RV)} {x y : D} {s : RV} {v k : M RV} {ps : List (D × D)}
@[simp] theorem kD3_e : kD3 x y ps st = .ok ((x, y) :: ps) st := rfl
@[simp] theorem kD2_e : kD2 r x y st = (mPr r st).bd (kD3 x y) := rfl
@[simp] theorem kD1'_e : kD1' r x s st = (RV.frz s st).bd (kD2 r x) := rfl
@[simp] theorem kD1_e : kD1 v r x st = (v st).bd (kD1' r x) := rfl
@[simp] theorem kD0_e : kD0 v r s st = (RV.frz s st).bd (kD1 v r) := rfl
@[simp] theorem r_pr0 : mPr [] st = .ok [] st := rfl
@[simp] theorem r_pr : mPr ((k, v) :: r) st = (k st).bd (kD0 v r) := by
  show ((k st).bd RV.frz).bd (fun x => M.bind (M.frz v) fun y => M.bind (mPr r) fun ps => M.pure ((x, y) :: ps)) = _
  cases k st with
  | ok s st =>
    show (RV.frz s st).bd _ = (RV.frz s st).bd (kD1 v r)
    congr 1; funext x st
    show ((v st).bd RV.frz).bd (fun y => M.bind (mPr r) fun ps => M.pure ((x, y) :: ps)) = (v st).bd (kD1' r x)
    cases v st <;> rfl
  | exc c st => rfl
  | stuck => rfl
def kDi (ps : List (D × D)) (st : State) : Out RV := match asKs ps with
  | some kvs => if kvs.length ≤ 15 then .ok (.ow (.dc (mergeD [] kvs))) st else .stuck
  | none => .stuck
theorem kDi_e {kvs : List (Key × D)} (h : asKs ps = some kvs) (hl : kvs.length ≤ 15) : kDi ps st = .ok (.ow (.dc (mergeD [] kvs))) st := by simp only [kDi, h, if_pos hl]
@[simp] theorem r_disp : mDisp r st = (mPr r st).bd kDi := by
  show M.bind (mPr r) _ st = _
  rw [r_bind]; congr 1; funext ps st
  show (match asKs ps with
    | some kvs => if kvs.length ≤ 15 then M.pure (.ow (.dc (mergeD [] kvs))) else M.stuck
    | none => M.stuck : M RV) st = kDi ps st
  unfold kDi
  cases asKs ps with
  | none => rfl
  | some kvs => simp only; split <;> rfl
end
end PM
set_option Elab.async false
set_option linter.all false
set_option maxRecDepth 100000
set_option maxHeartbeats 1200000
namespace PM
open PySem PySem.Spec L2
/-! ### how runs are reckoned: errors, instances -/
section
variable {α β : Type} {st : State} {m a b c o v : M RV} {ml mk : M (List D)} {C Y x f g : Str} {fs : List (Str × D)} {r s : RV} {ys Cs Xs : List Str} {l : List Hnd} {body : MS}
def kB1 (G : RV → State → Out β) (r : RV) (st : State) : Out β := G r.bor st
def kB2 (b : M RV) (G : RV → RV → State → Out β) (r : RV) (st : State) : Out β := (b st).bd (kB1 (G r.bor))
@[simp] theorem kB1_e {G : RV → State → Out β} : kB1 G r st = G r.bor st := rfl
@[simp] theorem kB2_e {G : RV → RV → State → Out β} : kB2 b G r st = (b st).bd (kB1 (G r.bor)) := rfl
theorem r_b1 {G : RV → State → Out β} : (a.bor.bind G) st = (a st).bd (kB1 G) := by
  unfold kB1
  cases h : a st <;> simp [M.bor, M.bind, M.pure, h, Out.bd]
theorem r_b2 {G : RV → RV → State → Out β} : (a.bor.bind fun r => b.bor.bind (G r)) st = (a st).bd (kB2 b G) := by
  unfold kB2 kB1
  cases h1 : a st with
  | ok r st1 => cases h2 : b st1 <;> simp [M.bor, M.bind, M.pure, h1, h2, Out.bd]
  | exc c st1 => simp [M.bor, M.bind, M.pure, h1, Out.bd]
  | stuck => simp [M.bor, M.bind, M.pure, h1, Out.bd]
/-! raise -/
def kRz (C : Str) (fs : List Str) (ds : List D) (st : State) : SOut := if ds.length = fs.length then .exc ⟨.own C, if fs = [] then none else some (fs.zip ds).reverse⟩ st else .stuck
@[simp] theorem r_raise {fs : List Str} : mRaise C fs ml st = (ml st).th (kRz C fs) := rfl
@[simp] theorem kRz_0 : kRz C [] [] st = .exc ⟨.own C, none⟩ st := rfl
@[simp] theorem kRz_1 {d : D} : kRz C [f] [d] st = .exc ⟨.own C, some [(f, d)]⟩ st := rfl
@[simp] theorem kRz_2 {d e : D} : kRz C [f, g] [d, e] st = .exc ⟨.own C, some [(g, e), (f, d)]⟩ st := rfl
/-! try -/
def kTry (ys : List Str) (l : List Hnd) : SOut → SOut
  | .exc c st => runH ys l c st
  | o => o
@[simp] theorem kTry_nx : kTry ys l (.nx st) = .nx st := rfl
@[simp] theorem kTry_rt : kTry ys l (.rt r st) = .rt r st := rfl
@[simp] theorem kTry_bk : kTry ys l (.bk st) = .bk st := rfl
@[simp] theorem kTry_ct : kTry ys l (.ct st) = .ct st := rfl
@[simp] theorem kTry_exc {c : Exc} : kTry ys l (.exc c st) = runH ys l c st := rfl
@[simp] theorem r_try : mTry body ys l st = kTry ys l (body st) := by
  unfold mTry kTry
  cases body st <;> rfl
@[simp] theorem r_runH0 {c : Exc} : runH ys [] c st = .exc c st := rfl
def kIn (ys : List Str) (Y : Str) (o : SOut) : SOut := if ys.contains Y then o else .stuck
@[simp] theorem r_runH {i : Option Nat} {d : Option (List (Str × D))} (hy : ys.contains C = true) : runH ys ((C, i, body) :: l) ⟨.own C, d⟩ st = runS i body ⟨.own C, d⟩ st := by
  simp only [runH, hy, if_true]
@[simp] theorem r_runS0 {c : Exc} : runS none body c st = noS (body st) := rfl
@[simp] theorem r_runS1 {c : Exc} {i : Nat} : runS (some i) body c st = unS i (body { st with env := st.env.set i (.sh c.toD) }) := rfl
@[simp] theorem toD_0 : Exc.toD ⟨.own C, none⟩ = .exn0 C := rfl
@[simp] theorem toD_1 : Exc.toD ⟨.own C, some fs⟩ = .exn C fs := rfl
@[simp] theorem unS_nx {i : Nat} : unS i (.nx st) = .nx (st.wipe [i]) := rfl
@[simp] theorem unS_bk {i : Nat} : unS i (.bk st) = .bk (st.wipe [i]) := rfl
@[simp] theorem unS_ct {i : Nat} : unS i (.ct st) = .ct (st.wipe [i]) := rfl
@[simp] theorem unS_sh {i : Nat} {d : D} : unS i (.rt (.sh d) st) = .rt (.sh d) (st.wipe [i]) := rfl
@[simp] theorem unS_ow {i : Nat} {d : Cell} : unS i (.rt (.ow d) st) = .rt (.ow d) (st.wipe [i]) := rfl
@[simp] theorem noS_nx : noS (.nx st) = .nx st := rfl
@[simp] theorem noS_rt : noS (.rt r st) = .rt r st := rfl
@[simp] theorem noS_bk : noS (.bk st) = .bk st := rfl
@[simp] theorem noS_ct : noS (.ct st) = .ct st := rfl
/-! isinstance -/
def isG (tab : IsiT) (bs : List Str) (r s : RV) (st : State) : Out RV := match thing st r with
  | some (C, _) => (match (tgtOf s).bind fun t => tab.lookup (C, t) with
    | some c => .ok (.sh (.bl c)) st
    | none => .stuck)
  | none => at2 (opIsi2 bs) r s st
def isXG (tx tab : IsiT) (bs : List Str) (r s : RV) (st : State) : Out RV := match excOf r with
  | some C => (match (tgtOf s).bind fun t => tx.lookup (C, t) with
    | some c => .ok (.sh (.bl c)) st
    | none => .stuck)
  | none => isG tab bs r s st
@[simp] theorem r_isi {tab : IsiT} {bs : List Str} : mIsi tab bs a b st = (a st).bd (kB2 b (isG tab bs)) := r_b2
@[simp] theorem r_isiX {tx tab : IsiT} {bs : List Str} : mIsiX tx tab bs a b st = (a st).bd (kB2 b (isXG tx tab bs)) := r_b2
def lkB (o : Option Bool) (st : State) : Out RV := Out.opt (o.map fun c => .sh (.bl c)) st
@[simp] theorem lkB_s {c : Bool} : lkB (some c) st = .ok (.sh (.bl c)) st := rfl
@[simp] theorem isXG_0t {tx tab : IsiT} {bs : List Str} {T : String} : isXG tx tab bs (.sh (.exn0 C)) (.sh (.val (.ty T))) st = lkB (tx.lookup (C, .ty T)) st := by
  show (match tx.lookup (C, .ty T) with | some c => _ | none => _) = _
  cases tx.lookup (C, .ty T) <;> rfl
@[simp] theorem isXG_0c {tx tab : IsiT} {bs : List Str} {B : Str} : isXG tx tab bs (.sh (.exn0 C)) (.sh (.cls B)) st = lkB (tx.lookup (C, .own B)) st := by
  show (match tx.lookup (C, .own B) with | some c => _ | none => _) = _
  cases tx.lookup (C, .own B) <;> rfl
@[simp] theorem isXG_1t {tx tab : IsiT} {bs : List Str} {T : String} : isXG tx tab bs (.sh (.exn C fs)) (.sh (.val (.ty T))) st = lkB (tx.lookup (C, .ty T)) st := by
  show (match tx.lookup (C, .ty T) with | some c => _ | none => _) = _
  cases tx.lookup (C, .ty T) <;> rfl
@[simp] theorem isXG_1c {tx tab : IsiT} {bs : List Str} {B : Str} : isXG tx tab bs (.sh (.exn C fs)) (.sh (.cls B)) st = lkB (tx.lookup (C, .own B)) st := by
  show (match tx.lookup (C, .own B) with | some c => _ | none => _) = _
  cases tx.lookup (C, .own B) <;> rfl
@[simp] theorem isG_rt {tab : IsiT} {bs : List Str} {T : String} : isG tab bs (.sh (.rcd C fs)) (.sh (.val (.ty T))) st = lkB (tab.lookup (C, .ty T)) st := by
  show (match tab.lookup (C, .ty T) with | some c => _ | none => _) = _
  cases tab.lookup (C, .ty T) <;> rfl
@[simp] theorem isG_rc {tab : IsiT} {bs : List Str} {B : Str} : isG tab bs (.sh (.rcd C fs)) (.sh (.cls B)) st = lkB (tab.lookup (C, .own B)) st := by
  show (match tab.lookup (C, .own B) with | some c => _ | none => _) = _
  cases tab.lookup (C, .own B) <;> rfl
/-- a value that is data, no instance and no error -/
def isDat : D → Bool
  | .rcd _ _ | .obj _ | .exn0 _ | .exn _ _ | .cls _ | .val _ => false
  | _ => true
theorem isXG_d {tx tab : IsiT} {bs : List Str} {d : D} (h : isDat d = true) : isXG tx tab bs (.sh d) s st = at2 (opIsi2 bs) (.sh d) s st := by
  cases d <;> first | rfl | cases h
/-! fields -/
def flG (Cs : List Str) (f : Str) (r : RV) (st : State) : Out RV := match thing st r with
  | some (C, fs) => if Cs.contains C then (match fs.lookup f with
    | some d => .ok (.sh d) st
    | none => .stuck) else .stuck
  | none => .stuck
@[simp] theorem r_fld : mFld Cs f a st = (a st).bd (kB1 (flG Cs f)) := r_b1
def flO (Cs : List Str) (C f : Str) (fs : List (Str × D)) : Option RV := if Cs.contains C then (fs.lookup f).map .sh else none
theorem flG_of (h : thing st r = some (C, fs)) : flG Cs f r st = Out.opt (flO Cs C f fs) st := by
  simp only [flG, h, flO]
  split
  · cases fs.lookup f <;> rfl
  · rfl
@[simp] theorem flG_r : flG Cs f (.sh (.rcd C fs)) st = Out.opt (flO Cs C f fs) st := flG_of rfl
theorem flO_e {d : D} (h : Cs.contains C = true) (hl : fs.lookup f = some d) : flO Cs C f fs = some (.sh d) := by
  unfold flO
  rw [if_pos h, hl]
  rfl
def fxG (Xs : List Str) (f : Str) (r : RV) (st : State) : Out RV := match xthing r with
  | some (C, fs) => if Xs.contains C then (match fs.lookup f with
    | some d => .ok (.sh d) st
    | none => .stuck) else .stuck
  | none => .stuck
@[simp] theorem r_fldX : mFldX Xs f a st = (a st).bd (kB1 (fxG Xs f)) := r_b1
@[simp] theorem fxG_e : fxG Xs f (.sh (.exn C fs)) st = Out.opt (flO Xs C f fs) st := by
  simp only [fxG, xthing, flO]
  split
  · cases fs.lookup f <;> rfl
  · rfl
def kSf2 (Cs : List Str) (f : Str) (d : D) (r : RV) (st : State) : SOut := kU (upC (putFC Cs f d) r.bor st)
def kSf (Cs : List Str) (f : Str) (o : M RV) (d : D) (st : State) : SOut := (o st).th (kSf2 Cs f d)
def kSf0 (Cs : List Str) (f : Str) (o : M RV) (r : RV) (st : State) : SOut := (RV.frz r st).th (kSf Cs f o)
@[simp] theorem kSf2_e {d : D} : kSf2 Cs f d r st = kU (upC (putFC Cs f d) r.bor st) := rfl
@[simp] theorem kSf_e {d : D} : kSf Cs f o d st = (o st).th (kSf2 Cs f d) := rfl
@[simp] theorem kSf0_e : kSf0 Cs f o r st = (RV.frz r st).th (kSf Cs f o) := rfl
@[simp] theorem r_setF : mSetF Cs f o v st = (v st).th (kSf0 Cs f o) := by
  unfold mSetF kSf0 kSf kSf2 kU
  cases h1 : v st with
  | ok r st1 =>
    cases h2 : RV.frz r st1 with
    | ok d st2 =>
      cases h3 : o st2 with
      | ok q st3 =>
        have eb : q.bor.bor = q.bor := by cases q <;> rfl
        simp [M.frz, M.bor, M.bind, M.then, M.pure, h1, h2, h3, Out.bd, Out.th, eb]
        all_goals (cases upC (putFC Cs f d) q.bor st3 <;> rfl)
      | exc => simp [M.frz, M.bor, M.bind, M.then, M.pure, h1, h2, h3, Out.bd, Out.th]
      | stuck => simp [M.frz, M.bor, M.bind, M.then, M.pure, h1, h2, h3, Out.bd, Out.th]
    | exc => simp [M.frz, M.bor, M.bind, M.then, M.pure, h1, h2, Out.bd, Out.th]
    | stuck => simp [M.frz, M.bor, M.bind, M.then, M.pure, h1, h2, Out.bd, Out.th]
  | exc => simp [M.frz, M.bor, M.bind, M.then, M.pure, h1, Out.bd, Out.th]
  | stuck => simp [M.frz, M.bor, M.bind, M.then, M.pure, h1, Out.bd, Out.th]
theorem up_in {n : Nat} {d : D} (h : st.store[n]? = some (.ins C fs)) (hC : Cs.contains C = true) (hl : fs.length < 1000) : upC (putFC Cs f d) (.sh (.obj n)) st = some (.non, { st with store := st.store.set n (.ins C (putD f d fs)) }) := by
  simp only [upC, h, putFC, if_pos (And.intro hC hl)]
  rfl
/-! making -/
def kMk2 (i : Nat) (st : State) : FRes → Out RV
  | .ret (.sh .non) store' => .ok (.sh (.obj i)) { st with store := store' }
  | .exc c store' => .exc c { st with store := store' }
  | _ => .stuck
@[simp] theorem kMk2_n {i : Nat} {store : List Cell} : kMk2 i st (.ret (.sh .non) store) = .ok (.sh (.obj i)) { st with store := store } := rfl
@[simp] theorem kMk2_x {i : Nat} {c : Exc} {store : List Cell} : kMk2 i st (.exc c store) = .exc c { st with store := store } := rfl
def kMk (C : Str) (n : Nat) (F : Fn) (ds : List D) (st : State) : Out RV := if ds.length = n then kMk2 st.store.length st (F (.obj st.store.length :: ds) (st.store ++ [.ins C []])) else .stuck
@[simp] theorem kMk_0 {F : Fn} : kMk C 0 F [] st = kMk2 st.store.length st (F [.obj st.store.length] (st.store ++ [.ins C []])) := rfl
@[simp] theorem kMk_1 {F : Fn} {d : D} : kMk C 1 F [d] st = kMk2 st.store.length st (F [.obj st.store.length, d] (st.store ++ [.ins C []])) := rfl
@[simp] theorem kMk_2 {F : Fn} {d e : D} : kMk C 2 F [d, e] st = kMk2 st.store.length st (F [.obj st.store.length, d, e] (st.store ++ [.ins C []])) := rfl
@[simp] theorem kMk_3 {F : Fn} {d e g : D} : kMk C 3 F [d, e, g] st = kMk2 st.store.length st (F [.obj st.store.length, d, e, g] (st.store ++ [.ins C []])) := rfl
@[simp] theorem r_make {n : Nat} {F : Fn} : mMake C n F ml st = (ml st).bd (kMk C n F) := by
  show (ml st).bd (fun ds st => _) = _
  rfl
@[simp] theorem r_makeL {i n : Nat} {F : Fn} (h : st.env[i]? = some (.sh (.cls C))) : mMakeL i C n F ml st = (ml st).bd (kMk C n F) := by
  unfold mMakeL
  simp only [h, if_true]
  exact r_make
def kFz (r : RV) (st : State) : Out RV := match r with
  | .sh (.obj n) => (match st.store[n]? with
    | some (.ins C fs) => .ok (.sh (.rcd C fs)) { st with store := st.store.set n .dead }
    | _ => .stuck)
  | _ => .stuck
@[simp] theorem r_fz : mFz m st = (m st).bd kFz := rfl
theorem kFz_e {n : Nat} (h : st.store[n]? = some (.ins C fs)) : kFz (.sh (.obj n)) st = .ok (.sh (.rcd C fs)) { st with store := st.store.set n .dead } := by simp only [kFz, h]
/-! operators -/
def biG (tab : List (Str × Fn)) (g : D → D → Option RV) (r s : RV) (st : State) : Out RV := match same2 st r s with
  | some (C, x, y) => ownC tab C [x, y] st
  | none => at2 g r s st
def cmG (tab : List (Str × Fn)) (g : D → D → Option Bool) (r s : RV) (st : State) : Out Bool := match same2 st r s with
  | some (C, x, y) => (ownC tab C [x, y]).bind okB st
  | none => at2 g r s st
def inG (tab : List (Str × Fn)) (g : D → D → Option Bool) (r s : RV) (st : State) : Out Bool := match thing st s with
  | some (C, _) => (match r, s with
    | .sh x, .sh y => (ownC tab C [y, x]).bind okB st
    | _, _ => .stuck)
  | none => at2 g r s st
def trG (tab : List (Str × Fn)) (r : RV) (st : State) : Out Bool := match thing st r with
  | some (C, _) => (match r with
    | .sh x => (ownC tab C [x]).bind okB st
    | _ => .stuck)
  | none => okB r st
@[simp] theorem r_bin {tab : List (Str × Fn)} {g : D → D → Option RV} : mBin tab g a b st = (a st).bd (kB2 b (biG tab g)) := r_b2
@[simp] theorem r_cmp2 {tab : List (Str × Fn)} {g : D → D → Option Bool} : mCmp2 tab g a b st = (a st).bd (kB2 b (cmG tab g)) := r_b2
@[simp] theorem r_in2 {tab : List (Str × Fn)} {g : D → D → Option Bool} : mIn2 tab g a b st = (a st).bd (kB2 b (inG tab g)) := r_b2
@[simp] theorem r_tru {tab : List (Str × Fn)} : mTru tab a st = (a st).bd (kB1 (trG tab)) := r_b1
@[simp] theorem okB_e {c : Bool} : okB (.sh (.bl c)) st = .ok c st := rfl
theorem own_e {tab : List (Str × Fn)} {F : Fn} {ds : List D} (h : tab.lookup C = some F) : ownC tab C ds st = ofF st (F ds st.store) := by simp only [ownC, h]
@[simp] theorem trG_b {tab : List (Str × Fn)} {c : Bool} : trG tab (.sh (.bl c)) st = .ok c st := rfl
/-! methods -/
def kN (n : Nat) (F : Fn) (x : D) (ds : List D) (st : State) : Out RV := if ds.length = n then ofF st (F (x :: ds) st.store) else .stuck
@[simp] theorem kN_0 {F : Fn} {x : D} : kN 0 F x [] st = ofF st (F [x] st.store) := rfl
@[simp] theorem kN_1 {F : Fn} {x y : D} : kN 1 F x [y] st = ofF st (F [x, y] st.store) := rfl
@[simp] theorem kN_2 {F : Fn} {x y z : D} : kN 2 F x [y, z] st = ofF st (F [x, y, z] st.store) := rfl
@[simp] theorem kN_3 {F : Fn} {x y z w : D} : kN 3 F x [y, z, w] st = ofF st (F [x, y, z, w] st.store) := rfl
@[simp] theorem r_callN {n : Nat} {F : Fn} {x : D} : callN n F x ml st = (ml st).bd (kN n F x) := rfl
def meG (tab : List (Str × Fn)) (m : Str) (n : Nat) (args : M (List D)) (r : RV) (st : State) : Out RV := match r with
  | .sh x => (match thing st (.sh x) with
    | some (C, fs) => if (fs.lookup m).isNone then (match tab.lookup C with
      | some F => callN n F x args st
      | none => .stuck) else .stuck
    | none => .stuck)
  | _ => .stuck
@[simp] theorem r_meth {tab : List (Str × Fn)} {n : Nat} : mMeth tab f n o ml st = (o st).bd (kB1 (meG tab f n ml)) := r_b1
def prG (tab : List (Str × Fn)) (r : RV) (st : State) : Out RV := match r with
  | .sh x => (match thing st (.sh x) with
    | some (C, _) => noX (ownC tab C [x]) st
    | none => .stuck)
  | _ => .stuck
@[simp] theorem r_prop {tab : List (Str × Fn)} : mProp tab o st = (o st).bd (kB1 (prG tab)) := r_b1
def nXo : Out RV → Out RV
  | .ok r st => .ok r st
  | _ => .stuck
@[simp] theorem nXo_ok : nXo (.ok r st) = .ok r st := rfl
theorem prG_of {tab : List (Str × Fn)} {F : Fn} {x : D} (h : thing st (.sh x) = some (C, fs)) (ht : tab.lookup C = some F) : prG tab (.sh x) st = nXo (ofF st (F [x] st.store)) := by
  simp only [prG, h, noX, own_e ht]
  cases ofF st (F [x] st.store) <;> rfl
@[simp] theorem r_cm {n : Nat} {F : Fn} : mCm C n F ml st = (ml st).bd (kN n F (.cls C)) := rfl
@[simp] theorem kCall_5 {F : Fn} {a b c d e : D} : kCall 5 F [a, b, c, d, e] st = ofF st (F [a, b, c, d, e] st.store) := rfl
@[simp] theorem kCall_6 {F : Fn} {a b c d e f : D} : kCall 6 F [a, b, c, d, e, f] st = ofF st (F [a, b, c, d, e, f] st.store) := rfl
/-! more -/
def kSt3 (xs ys : List D) (st : State) : Out (List D) := .ok (xs ++ ys) st
def kSt2 (ml : M (List D)) (xs : List D) (st : State) : Out (List D) := (ml st).bd (kSt3 xs)
def kSt1 (ml : M (List D)) (d : D) (st : State) : Out (List D) := (Out.opt (asSeq d) st).bd (kSt2 ml)
def kSt0 (ml : M (List D)) (r : RV) (st : State) : Out (List D) := (RV.frz r st).bd (kSt1 ml)
@[simp] theorem kSt3_e {xs ys : List D} : kSt3 xs ys st = .ok (xs ++ ys) st := rfl
@[simp] theorem kSt2_e {xs : List D} : kSt2 ml xs st = (ml st).bd (kSt3 xs) := rfl
@[simp] theorem kSt1_e {d : D} : kSt1 ml d st = (Out.opt (asSeq d) st).bd (kSt2 ml) := rfl
@[simp] theorem kSt0_e : kSt0 ml r st = (RV.frz r st).bd (kSt1 ml) := rfl
@[simp] theorem r_star : mStar a ml st = (a st).bd (kSt0 ml) := by
  unfold mStar kSt0 kSt1 kSt2 kSt3
  cases h1 : a st with
  | ok r st1 =>
    cases h2 : RV.frz r st1 with
    | ok d st2 =>
      cases h3 : asSeq d with
      | some xs => cases h4 : ml st2 <;> simp [M.frz, M.bind, M.pure, M.ofO, h1, h2, h3, h4, Out.bd]
      | none => simp [M.frz, M.bind, M.pure, M.ofO, M.stuck, h1, h2, h3, Out.bd]
    | exc => simp [M.frz, M.bind, M.pure, h1, h2, Out.bd]
    | stuck => simp [M.frz, M.bind, M.pure, h1, h2, Out.bd]
  | exc => simp [M.frz, M.bind, M.pure, h1, Out.bd]
  | stuck => simp [M.frz, M.bind, M.pure, h1, Out.bd]
def kZp2 (x y : D) (st : State) : Out (List D) := Out.opt (zip2 x y) st
def kZp1 (x : D) (s : RV) (st : State) : Out (List D) := (RV.frz s st).bd (kZp2 x)
def kZp0 (b : M RV) (x : D) (st : State) : Out (List D) := (b st).bd (kZp1 x)
def kZp (b : M RV) (r : RV) (st : State) : Out (List D) := (RV.frz r st).bd (kZp0 b)
@[simp] theorem kZp2_e {x y : D} : kZp2 x y st = Out.opt (zip2 x y) st := rfl
@[simp] theorem kZp1_e {x : D} : kZp1 x s st = (RV.frz s st).bd (kZp2 x) := rfl
@[simp] theorem kZp0_e {x : D} : kZp0 b x st = (b st).bd (kZp1 x) := rfl
@[simp] theorem kZp_e : kZp b r st = (RV.frz r st).bd (kZp0 b) := rfl
@[simp] theorem r_zip : mZip a b st = (a st).bd (kZp b) := by
  unfold mZip kZp kZp0 kZp1 kZp2
  cases h1 : a st with
  | ok r st1 =>
    cases h2 : RV.frz r st1 with
    | ok d st2 =>
      cases h3 : b st2 with
      | ok q st3 => cases h4 : RV.frz q st3 <;> simp [M.frz, M.bind, h1, h2, h3, h4, Out.bd]
      | exc => simp [M.frz, M.bind, h1, h2, h3, Out.bd]
      | stuck => simp [M.frz, M.bind, h1, h2, h3, Out.bd]
    | exc => simp [M.frz, M.bind, h1, h2, Out.bd]
    | stuck => simp [M.frz, M.bind, h1, h2, Out.bd]
  | exc => simp [M.frz, M.bind, h1, Out.bd]
  | stuck => simp [M.frz, M.bind, h1, Out.bd]
def boG (tab : List (Str × Fn)) (r : RV) (st : State) : Out RV := match r with
  | .sh x => (match thing st (.sh x) with
    | some (C, _) => ((noX (ownC tab C [x])).bind fun r => (okB r).bind fun b => M.pure (.sh (.bl b))) st
    | none => at1 opBool r st)
  | _ => at1 opBool r st
@[simp] theorem r_boolC {tab : List (Str × Fn)} : mBoolC tab a st = (a st).bd (kB1 (boG tab)) := r_b1
def chG (g g' : D → D → Option Bool) (c : M RV) (r s : RV) (st : State) : Out Bool := ((at2 g r s).bind fun t => if t then c.bor.bind fun u => at2 g' s u else M.pure false) st
@[simp] theorem r_ch {g g' : D → D → Option Bool} : mCh g g' a b c st = (a st).bd (kB2 b (chG g g' c)) := r_b2
def kCh2 (g' : D → D → Option Bool) (s u : RV) (st : State) : Out Bool := Out.opt (on2 g' (view st s) (view st u.bor)) st
def kCh1 (g' : D → D → Option Bool) (c : M RV) (s : RV) (t : Bool) (st : State) : Out Bool := if t then (c st).bd (kCh2 g' s) else .ok false st
@[simp] theorem kCh2_e {g' : D → D → Option Bool} {u : RV} : kCh2 g' s u st = Out.opt (on2 g' (view st s) (view st u.bor)) st := rfl
@[simp] theorem kCh1_t {g' : D → D → Option Bool} : kCh1 g' c s true st = (c st).bd (kCh2 g' s) := rfl
@[simp] theorem kCh1_f {g' : D → D → Option Bool} : kCh1 g' c s false st = .ok false st := rfl
@[simp] theorem chG_e {g g' : D → D → Option Bool} : chG g g' c r s st = (Out.opt (on2 g (view st r) (view st s)) st).bd (kCh1 g' c s) := by
  show M.bind (at2 g r s) _ st = _
  rw [r_bind, r_at2]
  cases on2 g (view st r) (view st s) with
  | none => rfl
  | some t =>
    cases t with
    | false => rfl
    | true =>
      show (M.bind (M.bor c) _) st = (c st).bd (kCh2 g' s)
      unfold kCh2
      cases h : c st <;> simp [M.bor, M.bind, M.pure, h, Out.bd]
def kCk2 (n j : Nat) (F : Fn) (ds es : List D) (st : State) : Out RV := if ds.length = n ∧ es.length = j then ofF st (F (ds ++ es) st.store) else .stuck
def kCk (n j : Nat) (F : Fn) (mk : M (List D)) (ds : List D) (st : State) : Out RV := (mk st).bd (kCk2 n j F ds)
@[simp] theorem kCk_e {n j : Nat} {F : Fn} {ds : List D} : kCk n j F mk ds st = (mk st).bd (kCk2 n j F ds) := rfl
@[simp] theorem r_callK {n j : Nat} {F : Fn} : mCallK n j F ml mk st = (ml st).bd (kCk n j F mk) := rfl
def kQ6 (i j l : Nat) (r s t : RV) (st : State) : SOut := if isLo s || isLo t then .stuck else .nx { st with env := ((st.env.set i r.slot).set j s.slot).set l t.slot }
def kQ5 (i j l : Nat) (r s t : RV) (st : State) : SOut := (RV.fix t st).th (kQ6 i j l r s)
def kQ4 (i j l : Nat) (c : M RV) (r s : RV) (st : State) : SOut := (c st).th (kQ5 i j l r s)
def kQ3 (i j l : Nat) (c : M RV) (r s : RV) (st : State) : SOut := (RV.fix s st).th (kQ4 i j l c r)
def kQ2 (i j l : Nat) (b c : M RV) (r : RV) (st : State) : SOut := (b st).th (kQ3 i j l c r)
def kQ1 (i j l : Nat) (b c : M RV) (r : RV) (st : State) : SOut := (RV.fix r st).th (kQ2 i j l b c)
@[simp] theorem kQ6_e {i j l : Nat} {t : RV} : kQ6 i j l r s t st = if isLo s || isLo t then .stuck else .nx { st with env := ((st.env.set i r.slot).set j s.slot).set l t.slot } := rfl
@[simp] theorem kQ5_e {i j l : Nat} {t : RV} : kQ5 i j l r s t st = (RV.fix t st).th (kQ6 i j l r s) := rfl
@[simp] theorem kQ4_e {i j l : Nat} : kQ4 i j l c r s st = (c st).th (kQ5 i j l r s) := rfl
@[simp] theorem kQ3_e {i j l : Nat} : kQ3 i j l c r s st = (RV.fix s st).th (kQ4 i j l c r) := rfl
@[simp] theorem kQ2_e {i j l : Nat} : kQ2 i j l b c r st = (b st).th (kQ3 i j l c r) := rfl
@[simp] theorem kQ1_e {i j l : Nat} : kQ1 i j l b c r st = (RV.fix r st).th (kQ2 i j l b c) := rfl
theorem fix_th {q : RV → MS} : (a.fix.then q) st = (a st).th (fun r st => (RV.fix r st).th q) := by
  cases h1 : a st with
  | ok r st1 =>
    have e : M.fix a st = RV.fix r st1 := by rw [r_fix, h1]; rfl
    simp only [M.then, e, Out.th]
    all_goals rfl
  | exc c st1 =>
    have e : M.fix a st = .exc c st1 := by rw [r_fix, h1]; rfl
    simp only [M.then, e, Out.th]
  | stuck =>
    have e : M.fix a st = .stuck := by rw [r_fix, h1]; rfl
    simp only [M.then, e, Out.th]
theorem th_congr {u w : α → State → SOut} {q : Out α} (h : ∀ r st, u r st = w r st) : q.th u = q.th w := by cases q <;> simp [Out.th, h]
@[simp] theorem r_par3 {i j l : Nat} : mPar3 i j l a b c st = (a st).th (kQ1 i j l b c) :=
  fix_th.trans (th_congr fun r st1 => th_congr fun r st2 => fix_th.trans (th_congr fun s st3 => th_congr fun s st4 => fix_th.trans (th_congr fun t st5 => rfl)))
end
end PM
set_option Elab.async false
set_option linter.all false
set_option maxRecDepth 100000
set_option maxHeartbeats 1200000
namespace PM
open PySem PySem.Spec L2
/-! ### loops by what they keep -/
section
variable {st : State} {m a b c : M RV}
def kRg (r : RV) (st : State) : Out (List D) := match asI r with
  | some i => if small i then .ok (rng 0 i.toNat) st else .stuck
  | none => .stuck
theorem kRg_e {i : Int} (h : small i = true) : kRg (.sh (.int i)) st = .ok (rng 0 i.toNat) st := if_pos h
@[simp] theorem r_rg1 : mRg1 m st = (m st).bd kRg := by
  unfold mRg1 kRg
  show (m st).bd _ = _
  congr 1
  funext r st1
  cases asI r with
  | none => rfl
  | some i =>
    simp only
    split <;> rfl
@[simp] theorem bd_frz {r : RV} : (Out.ok r st).bd RV.frz = RV.frz r st := rfl
@[simp] theorem kLst_5 {a b c d e : D} : kLst [a, b, c, d, e] st = .ok (.ow (.ls [a, b, c, d, e])) st := kLst_e (by simp [lim])
@[simp] theorem kLst_6 {a b c d e f : D} : kLst [a, b, c, d, e, f] st = .ok (.ow (.ls [a, b, c, d, e, f])) st := kLst_e (by simp [lim])
@[simp] theorem kLst_7 {a b c d e f g : D} : kLst [a, b, c, d, e, f, g] st = .ok (.ow (.ls [a, b, c, d, e, f, g])) st := kLst_e (by simp [lim])
@[simp] theorem kLst_8 {a b c d e f g h : D} : kLst [a, b, c, d, e, f, g, h] st = .ok (.ow (.ls [a, b, c, d, e, f, g, h])) st := kLst_e (by simp [lim])
@[simp] theorem kLst_9 {a b c d e f g h i : D} : kLst [a, b, c, d, e, f, g, h, i] st = .ok (.ow (.ls [a, b, c, d, e, f, g, h, i])) st := kLst_e (by simp [lim])
@[simp] theorem kLst_10 {a b c d e f g h i j : D} : kLst [a, b, c, d, e, f, g, h, i, j] st = .ok (.ow (.ls [a, b, c, d, e, f, g, h, i, j])) st := kLst_e (by simp [lim])
theorem rng_len {i : Int} {n : Nat} : (rng i n).length = n := by simp [rng]
theorem small_nat {n : Nat} (h : n < 4611686018427387904) : small (n : Int) = true := by
  unfold small
  simp only [decide_eq_true_eq]
  omega
end
end PM
set_option Elab.async false
set_option linter.all false
set_option maxRecDepth 100000
set_option maxHeartbeats 1200000
/-! ### xs[::-1] of a tuple -/
namespace PM
open PySem PySem.Spec L2 HT PySem.W PyProof.Rows
section
variable {prog : Program} {w : World} {A : Around} {E : Value → Shared → Prop} {s : Shared}
theorem places_rev (n : Nat) : Builtin.Slice.slicePlaces ((n : Int) - 1) (-1) (-1) = n := by
  unfold Builtin.Slice.slicePlaces
  have h1 : ¬ ((-1 : Int) > 0) := by omega
  have e : (- -1 : Int) = 1 := by decide
  simp only [h1, if_false, e, Int.ediv_one]
  split <;> omega
theorem sliceApplied_rev {sl : Addr} {vl vu vs : Value} {n : Nat} {Q : Int × Int × Nat → Shared → Prop} (hs : s.heap.IsSliceOf sl vl vu vs) (pl : IsPart vl none) (pu : IsPart vu none) (ps : IsPart vs (some (-1)))
    (h : Q ((n : Int) - 1, -1, n) s) : wpAny (model prog w) A (Builtin.Slice.sliceApplied (.ref sl) (pure (n : Int))) Q E s := by
  obtain ⟨os, hos, hcs, hds⟩ := id hs
  unfold Builtin.Slice.sliceApplied Builtin.Slice.sliceFields
  refine wpAny_bind (wpAny_bind (wpAny_field hos hds (x := vl) rfl (wpAny_bind (wpAny_field hos hds (x := vu) rfl (wpAny_bind (wpAny_field hos hds (x := vs) rfl (wpAny_pure ?_)))))))
  refine wpAny_bind (slicePart_ ps ?_)
  show wpAny _ _ (if ((-1 : Int) == 0) = true then _ else _) _ _ s
  rw [if_neg (by decide)]
  refine wpAny_bind (slicePart_ pl (wpAny_bind (slicePart_ pu (wpAny_bind (wpAny_pure ?_)))))
  show wpAny _ _ (pure ((n : Int) - 1, (-1 : Int), Builtin.Slice.slicePlaces ((n : Int) - 1) (-1) (-1))) _ _ s
  rw [places_rev]
  exact wpAny_pure h
theorem fm_congr {α β : Type} {f g : α → Option β} : ∀ l : List α, (∀ m ∈ l, f m = g m) → l.filterMap f = l.filterMap g
  | [], _ => rfl
  | a :: l, h => by
    rw [List.filterMap_cons, List.filterMap_cons, h a List.mem_cons_self, fm_congr l fun m hm => h m (List.mem_cons_of_mem _ hm)]
theorem pick_rev (xs : Array Value) : ((List.range xs.size).filterMap fun (m : Nat) => xs[((xs.size : Int) - 1 + (m : Int) * (-1)).toNat]?).toArray = xs.toList.reverse.toArray := by
  have k := PySem.W.krv_pick xs
  unfold slicePick at k
  rw [PySem.W.krv_bounds] at k
  have k2 : ((sliceRange ((xs.size : Int) - 1) (-1) (-1)).filterMap (xs[·]?)).toArray = xs.toList.reverse.toArray := k
  rw [PySem.W.krv_sliceRange, List.filterMap_map] at k2
  rw [← k2]
  congr 1
  refine fm_congr _ ?_
  intro m hm
  have := List.mem_range.mp hm
  have e : ((xs.size : Int) - 1 + (m : Int) * (-1)).toNat = xs.size - 1 - m := by omega
  show xs[_]? = xs[xs.size - 1 - m]?
  rw [e]
theorem getItem_tuple_rev {t sl : Addr} {items : Array Value} {vl vu vs : Value} {Q : Value → Shared → Prop} (ht : IsTup s.heap t items) (hs : s.heap.IsSliceOf sl vl vu vs) (pl : IsPart vl none) (pu : IsPart vu none) (ps : IsPart vs (some (-1)))
    (h : Q (.ref s.heap.objs.size) { s with heap := s.heap.push { cls := .type "tuple", data := .seq items.toList.reverse.toArray } })
    (hsz : items.size ≤ sizeLine) : wpAny (model prog w) A (getItem (.ref t) (.ref sl)) Q E s := by
  have htake : sizeOk (.seq items.toList.reverse.toArray) := by
    show items.toList.reverse.toArray.size ≤ sizeLine
    rw [List.size_toArray, List.length_reverse, Array.length_toList]
    exact hsz
  obtain ⟨os, hos, hcs, hds⟩ := id hs
  have hTs : s.TypeIs (.ref sl) "slice" := ⟨os, hos, hcs⟩
  unfold getItem
  try with_reducible refine wpAny_holding ?_
  first | refine wpAny_bind (wpAny_pure ?_) | skip
  refine wpAny_bind (wpAny_sequenceKey ht.typeIs (by decide) ?_)
  refine wpAny_bind (wpAny_callSpecial?_slot (name := Str.ofString "__getitem__") ht.typeIs PyProof.Rows.slot_tuple_getitem
    (wpAny_call_entry PyProof.Rows.slot_tuple_getitem ht.typeIs entry_tuple_getitem ?_ (args_tuple_getitem _ _)))
  show wpAny _ _ (Builtin.Tuple.tupleItemsOf (.ref t) >>= _) _ _ s
  refine wpAny_bind (tupleItemsOf_ ht ?_)
  refine wpAny_bind (wpAny_typeOf hTs ?_)
  rw [if_pos (by decide)]
  refine wpAny_bind (sliceApplied_rev hs pl pu ps ?_)
  have hno : ¬ ((((items.size : Int) - 1 == 0) && ((-1 : Int) == 1) && (items.size == items.size)) = true) := by
    intro q
    rw [Bool.and_eq_true, Bool.and_eq_true] at q
    exact absurd (eq_of_beq q.1.2) (by decide)
  show wpAny _ _ (if (((items.size : Int) - 1 == 0) && ((-1 : Int) == 1) && (items.size == items.size)) = true then _ else _) _ _ s
  rw [if_neg hno, pick_rev]
  first
    | exact wpAny_bind (m := Builtin.Tuple.tupleExact _) (wpAny_newObj_type (wpAny_pure ⟨_, rfl, wpAny_pure h⟩) htake)
    | exact wpAny_bind (m := Builtin.Tuple.tupleExact _) (wpAny_newObj_type (wpAny_bind (wpAny_pure (wpAny_pure ⟨_, rfl, wpAny_pure h⟩))) htake)
    | exact wpAny_bind (wpAny_bind (m := Builtin.Tuple.tupleExact _) (wpAny_newObj_type (wpAny_pure (wpAny_pure ⟨_, rfl, wpAny_pure h⟩)) htake))
    | exact wpAny_bind (wpAny_bind (m := Builtin.Tuple.tupleExact _) (wpAny_newObj_type (wpAny_pure ⟨_, rfl, wpAny_pure h⟩) htake))
end
section
variable {X : Cx} {E : Ent} {W : WX} {pos p1 p2 p3 : Pos} {k : Nat} {e : Expr} {te : TE} {a : Expr} {ma : M RV}
def RvR (X : Cx) (r : V → Hp → VK → Prop) : Prop :=
  ∀ (pins : List (Addr × Obj)) (s : Shared) (σ : L2.St) (H : Hp) (x : V) (v vl vu vs : Value) (sl : Addr) (Q : VK), Inv X pins σ H s → RelV x v → s.heap.IsSliceOf sl vl vu vs → IsPart vl none → IsPart vu none → IsPart vs (some (-1)) → r x H Q →
    ∃ T id, typeLookup (.type T) "__getitem__" = Pure.pure (some (.builtin id)) ∧ s.TypeIs v T ∧ wpAny (model X.prog X.w) X.A (getItem v (.ref sl)) (EP X pins σ Q) X.xe s
theorem pe_rev {r : V → Hp → VK → Prop} (hr : RvR X r) (he : PE X e te) : PE X (.Subscript e (.Slice none none (some (.UnaryOp .USub (.Constant (.int 1) k p1) p2)) p3) pos) (fun σ H Q => te σ H fun x H1 => r x H1 Q) := by
  refine ⟨fun pins s σ H Q I h => ?_⟩
  refine Subscript_ (thn (he.run pins s σ H _ I h) fun v s1 ⟨x, H1, I1, r1, q1⟩ => ?_)
  have hst : PO X (some (.UnaryOp .USub (.Constant (.int 1) k p1) p2)) (tPart (tUn (rU fun i => .int (-i)) (tC (.int 1)))) := po_some (pe_un un_neg pe_int)
  refine wpAny_Slice (thn (po_none.run pins s1 σ H1 (fun o H2 => o = none ∧ H2 = H1) I1 ⟨rfl, rfl⟩) fun vl s2 ⟨l, H2, I2, pl, el, e2⟩ => ?_)
  subst el e2
  refine thn (po_none.run pins s2 σ H2 (fun o H3 => o = none ∧ H3 = H2) I2 ⟨rfl, rfl⟩) fun vu s3 ⟨u, H3, I3, pu, eu, e3⟩ => ?_
  subst eu e3
  refine thn (hst.run pins s3 σ H3 (fun o H4 => o = some (-1) ∧ H4 = H3) I3 ⟨1, rfl, -1, rfl, rfl, rfl⟩) fun vs s4 ⟨o, H4, I4, ps, eo, e4⟩ => ?_
  subst eo e4
  have I5 : Inv X pins σ H4 { s4 with heap := s4.heap.push { cls := .type "slice", data := .fields #[vl, vu, vs] } } := I4.kept (t' := s4.toks) fun b ob q => Heap.get?_push_of_some _ q
  obtain ⟨T, id, hT, ht, hg⟩ := hr pins { s4 with heap := s4.heap.push { cls := .type "slice", data := .fields #[vl, vu, vs] } } σ H4 x v vl vu vs s4.heap.objs.size Q I5 r1 (Heap.IsSliceOf.new ..) pl pu ps q1
  show wpAny (model X.prog X.w) X.A (subscriptTail e (.Slice none none (some (.UnaryOp .USub (.Constant (.int 1) k p1) p2)) p3) v (.ref s4.heap.objs.size)) (EP X pins σ Q) X.xe { s4 with heap := s4.heap.push { cls := .type "slice", data := .fields #[vl, vu, vs] } }
  exact tail_any (ops := [v, .ref s4.heap.objs.size]) ht hT hg (by with_unfolding_all rfl)
theorem Rvs.rev {K : PySem.W.Frag} {φ : List Addr} {I : Hp} : ∀ {ds : List D} {vs : List V}, Rvs K φ I ds vs → Rvs K φ I ds.reverse vs.reverse
  | [], _, .nil => .nil
  | d :: ds, _, .cons h1 h2 => by
    rw [List.reverse_cons, List.reverse_cons]
    exact Rvs.app (Rvs.rev h2) (.cons h1 .nil)
def rRvT (K : PySem.W.Frag) : V → Hp → VK → Prop := fun x H Q => ∃ a xs, x = .ref a ∧ SqT K H a xs ∧ ∀ p, H p = none → Q (.ref p) (upd H p (.tup xs.reverse))
def rRvL (K : PySem.W.Frag) : V → Hp → VK → Prop := fun x H Q => ∃ a xs, x = .ref a ∧ SqL K H a xs ∧ ∀ p, H p = none → Q (.ref p) (upd H p (.lst xs.reverse))
theorem rv_tup : RvR X (rRvT X.K) := by
  intro pins s σ H x v vl vu vs sl Q I rx hs pl pu ps h
  obtain ⟨a, xs, rfl, hx, q⟩ := h
  cases rx
  obtain ⟨its, r, ht, hz⟩ := I.tuple hx
  have hlen : its.toArray.size = xs.length := by rw [List.size_toArray]; exact r.length.symm
  refine ⟨"tuple", _, PyProof.Rows.slot_tuple_getitem.lookup, ht.typeIs, ?_⟩
  refine getItem_tuple_rev ht hs pl pu ps ?_ (by rw [hlen]; exact hz)
  refine ⟨.ref s.heap.objs.size, _, I.laid (t' := s.toks) (o := .tup xs.reverse) (fun b ob q => Heap.get?_push_of_some _ q) (Nat.le_refl _) ?_, rfl, q _ (I.hok.fresh (Nat.le_refl _))⟩
  exact ⟨by rw [List.length_reverse]; exact hz, _, r.reverse, IsTup.new _ _⟩
theorem rv_lst : RvR X (rRvL X.K) := by
  intro pins s σ H x v vl vu vs sl Q I rx hs pl pu ps h
  obtain ⟨a, xs, rfl, hx, q⟩ := h
  cases rx
  obtain ⟨its, r, ht, hz⟩ := I.list hx
  have hlen := r.length
  refine ⟨"list", _, PySem.slot_list_getitem.lookup, ht.isList.typeIs, ?_⟩
  refine wpAny_getItem_list_slice ht.isList hs pl pu ps (by decide) ?_ (by rw [List.size_toArray]; omega)
  rw [PySem.W.krv_pick]
  refine ⟨.ref _, _, I.laid (t' := s.toks) (o := .lst xs.reverse) (fun b ob q => Heap.get?_push_of_some _ q) (Nat.le_refl _) ?_, rfl, q _ (I.hok.fresh (Nat.le_refl _))⟩
  exact ⟨by rw [List.length_reverse]; exact hz, _, 0, r.reverse, Heap.get?_push_size _ rfl⟩
def opRev : D → Option RV
  | .lst ds => some (.ow (.ls ds.reverse))
  | .lsF ds => some (.ow (.ls ds.reverse))
  | .tup ds => some (.sh (.tup ds.reverse))
  | .tpF ds => some (.sh (.tup ds.reverse))
  | _ => none
def rdRv (K : PySem.W.Frag) (E : Ent) : V → Hp → VK → Prop := fun v H Q => ∃ σ st φ I x r, Rp K E σ H st φ I ∧ Seen K φ I H x v ∧ opRev x = some r ∧ Af K E σ H st φ I r Q
theorem rv_any : RvR X (rdRv X.K E) := fun pins s σ' H v0 v vl vu vs sl Q I0 rx hs pl pu ps ⟨σ, st, φ, I, x, r, R, hx, e, q⟩ => by
  have lists : ∀ {ds : List D}, asL x = some ds → r = .ow (.ls ds.reverse) → rRvL X.K v0 H Q := fun h1 h2 => by
    subst h2
    obtain ⟨p, vs, rfl, g1, g2⟩ := hx.asL R.ext h1
    exact ⟨p, vs, rfl, g1, q.lst R g2.rev⟩
  have tups : ∀ {ds : List D}, asT x = some ds → r = .sh (.tup ds.reverse) → rRvT X.K v0 H Q := fun h1 h2 => by
    subst h2
    obtain ⟨p, vs, rfl, g1, g2⟩ := hx.asT R.ext h1
    exact ⟨p, vs, rfl, g1, q.tup R g2.rev⟩
  cases x <;> try (simp [opRev] at e; done)
  · exact rv_tup pins s σ' H v0 v vl vu vs sl Q I0 rx hs pl pu ps (tups rfl (Option.some.inj e).symm)
  · exact rv_lst pins s σ' H v0 v vl vu vs sl Q I0 rx hs pl pu ps (lists rfl (Option.some.inj e).symm)
  · exact rv_lst pins s σ' H v0 v vl vu vs sl Q I0 rx hs pl pu ps (lists rfl (Option.some.inj e).symm)
  · exact rv_tup pins s σ' H v0 v vl vu vs sl Q I0 rx hs pl pu ps (tups rfl (Option.some.inj e).symm)
theorem sr_rev (ha : SR X E W a ma) : SR X E W (.Subscript a (.Slice none none (some (.UnaryOp .USub (.Constant (.int 1) k p1) p2)) p3) pos) (mUn opRev ma) := PEi (pe_rev rv_any (sr_bor ha)) fun σ H Q ⟨st, φ, I, R, p⟩ => by
  refine ⟨st, φ, I, R, (Po.bind p).imp fun x H1 st1 φ1 I1 S1 R1 p1 v hv _ => ?_⟩
  obtain ⟨x', r, ex, e, p4⟩ := Po.at1 p1
  exact ⟨σ, st1, φ1, I1, x', r, R1, hv.seen Stp.refl R1 ex, e, fun u H' I' S' R' hr hn => p4 H' φ1 I' S' R' u hr (Nw.far S1.there hn)⟩
end
end PM
set_option Elab.async false
set_option linter.all false
set_option maxRecDepth 100000
set_option maxHeartbeats 1200000
namespace PM
open PySem PySem.Spec L2
/-! ### runs step by step: what is next stands ahead, what comes behind it in the want -/
def At {α : Type} (o : α) (Z : α → Prop) : Prop := Z o
theorem at_ret {o : FRes} {P : RV → List Cell → Prop} (h : ∀ Z : FRes → Prop, (∀ r s, P r s → Z (.ret r s)) → At o Z) : ∃ r s, o = .ret r s ∧ P r s :=
  h (fun o => ∃ r s, o = .ret r s ∧ P r s) fun r s p => ⟨r, s, rfl, p⟩
theorem at_eq {α : Type} {o p : α} (h : ∀ Z : α → Prop, Z p → At o Z) : o = p := h (fun o => o = p) rfl
theorem at_p {α : Type} {o : α} {P : α → Prop} (h : ∀ Z : α → Prop, (∀ a, P a → Z a) → At o Z) : P o := h P fun _ p => p
section
variable {α β : Type} {st : State} {s : List Cell} {c : Exc} {r : RV} {d : D}
def zSq (y : MS) (Z : SOut → Prop) (o : SOut) : Prop := Z (o.sq y)
def zBd (f : α → State → Out β) (Z : Out β → Prop) (o : Out α) : Prop := Z (o.bd f)
def zTh (f : α → State → SOut) (Z : SOut → Prop) (o : Out α) : Prop := Z (o.th f)
def zTf (Z : FRes → Prop) (o : SOut) : Prop := Z (toF o)
def zOf (st : State) (Z : Out RV → Prop) (o : FRes) : Prop := Z (ofF st o)
def zLp (k : MS) (Z : SOut → Prop) (o : SOut) : Prop := Z (o.lp k)
def zTry (ys : List Str) (l : List Hnd) (Z : SOut → Prop) (o : SOut) : Prop := Z (kTry ys l o)
def zUn (i : Nat) (Z : SOut → Prop) (o : SOut) : Prop := Z (unS i o)
def zNo (Z : SOut → Prop) (o : SOut) : Prop := Z (noS o)
def zMk (i : Nat) (st : State) (Z : Out RV → Prop) (o : FRes) : Prop := Z (kMk2 i st o)
def zNx (Z : Out RV → Prop) (o : Out RV) : Prop := Z (nXo o)
@[simp] theorem at_sq {o : SOut} {y : MS} {Z : SOut → Prop} : At (o.sq y) Z = At o (zSq y Z) := rfl
@[simp] theorem at_bd {o : Out α} {f : α → State → Out β} {Z : Out β → Prop} : At (o.bd f) Z = At o (zBd f Z) := rfl
@[simp] theorem at_th {o : Out α} {f : α → State → SOut} {Z : SOut → Prop} : At (o.th f) Z = At o (zTh f Z) := rfl
@[simp] theorem at_tf {o : SOut} {Z : FRes → Prop} : At (toF o) Z = At o (zTf Z) := rfl
@[simp] theorem at_of {o : FRes} {Z : Out RV → Prop} : At (ofF st o) Z = At o (zOf st Z) := rfl
@[simp] theorem at_lp {o : SOut} {k : MS} {Z : SOut → Prop} : At (o.lp k) Z = At o (zLp k Z) := rfl
@[simp] theorem at_try {o : SOut} {ys : List Str} {l : List Hnd} {Z : SOut → Prop} : At (kTry ys l o) Z = At o (zTry ys l Z) := rfl
@[simp] theorem at_unS {o : SOut} {i : Nat} {Z : SOut → Prop} : At (unS i o) Z = At o (zUn i Z) := rfl
@[simp] theorem at_noS {o : SOut} {Z : SOut → Prop} : At (noS o) Z = At o (zNo Z) := rfl
@[simp] theorem at_mk {o : FRes} {i : Nat} {Z : Out RV → Prop} : At (kMk2 i st o) Z = At o (zMk i st Z) := rfl
@[simp] theorem at_nX {o : Out RV} {Z : Out RV → Prop} : At (nXo o) Z = At o (zNx Z) := rfl
@[simp] theorem zSq_nx {y : MS} {Z : SOut → Prop} : At (.nx st) (zSq y Z) = At (y st) Z := rfl
@[simp] theorem zSq_rt {y : MS} {Z : SOut → Prop} : At (.rt r st) (zSq y Z) = At (.rt r st) Z := rfl
@[simp] theorem zSq_bk {y : MS} {Z : SOut → Prop} : At (.bk st) (zSq y Z) = At (.bk st) Z := rfl
@[simp] theorem zSq_ct {y : MS} {Z : SOut → Prop} : At (.ct st) (zSq y Z) = At (.ct st) Z := rfl
@[simp] theorem zSq_exc {y : MS} {Z : SOut → Prop} : At (.exc c st) (zSq y Z) = At (.exc c st) Z := rfl
@[simp] theorem zBd_ok {a : α} {f : α → State → Out β} {Z : Out β → Prop} : At (.ok a st) (zBd f Z) = At (f a st) Z := rfl
@[simp] theorem zBd_exc {f : α → State → Out β} {Z : Out β → Prop} : At (.exc c st) (zBd f Z) = At (.exc c st) Z := rfl
@[simp] theorem zTh_ok {a : α} {f : α → State → SOut} {Z : SOut → Prop} : At (.ok a st) (zTh f Z) = At (f a st) Z := rfl
@[simp] theorem zTh_exc {f : α → State → SOut} {Z : SOut → Prop} : At (.exc c st) (zTh f Z) = At (.exc c st) Z := rfl
@[simp] theorem zTf_nx {Z : FRes → Prop} : At (.nx st) (zTf Z) = Z (.ret (.sh .non) st.store) := rfl
@[simp] theorem zTf_sh {Z : FRes → Prop} : At (.rt (.sh d) st) (zTf Z) = Z (.ret (.sh d) st.store) := rfl
@[simp] theorem zTf_ow {Z : FRes → Prop} {c : Cell} : At (.rt (.ow c) st) (zTf Z) = Z (.ret (.ow c) st.store) := rfl
@[simp] theorem zTf_exc {Z : FRes → Prop} : At (.exc c st) (zTf Z) = Z (.exc c st.store) := rfl
@[simp] theorem zOf_sh {Z : Out RV → Prop} : At (.ret (.sh d) s) (zOf st Z) = At (.ok (.sh d) { st with store := s }) Z := rfl
@[simp] theorem zOf_ow {Z : Out RV → Prop} {c : Cell} : At (.ret (.ow c) s) (zOf st Z) = At (.ok (.ow c) { st with store := s }) Z := rfl
@[simp] theorem zOf_exc {Z : Out RV → Prop} : At (.exc c s) (zOf st Z) = At (.exc c { st with store := s }) Z := rfl
@[simp] theorem zLp_nx {k : MS} {Z : SOut → Prop} : At (.nx st) (zLp k Z) = At (k st) Z := rfl
@[simp] theorem zLp_ct {k : MS} {Z : SOut → Prop} : At (.ct st) (zLp k Z) = At (k st) Z := rfl
@[simp] theorem zLp_bk {k : MS} {Z : SOut → Prop} : At (.bk st) (zLp k Z) = At (.nx st) Z := rfl
@[simp] theorem zLp_rt {k : MS} {Z : SOut → Prop} : At (.rt r st) (zLp k Z) = At (.rt r st) Z := rfl
@[simp] theorem zLp_exc {k : MS} {Z : SOut → Prop} : At (.exc c st) (zLp k Z) = At (.exc c st) Z := rfl
@[simp] theorem zTry_nx {ys : List Str} {l : List Hnd} {Z : SOut → Prop} : At (.nx st) (zTry ys l Z) = At (.nx st) Z := rfl
@[simp] theorem zTry_rt {ys : List Str} {l : List Hnd} {Z : SOut → Prop} : At (.rt r st) (zTry ys l Z) = At (.rt r st) Z := rfl
@[simp] theorem zTry_bk {ys : List Str} {l : List Hnd} {Z : SOut → Prop} : At (.bk st) (zTry ys l Z) = At (.bk st) Z := rfl
@[simp] theorem zTry_ct {ys : List Str} {l : List Hnd} {Z : SOut → Prop} : At (.ct st) (zTry ys l Z) = At (.ct st) Z := rfl
@[simp] theorem zTry_exc {ys : List Str} {l : List Hnd} {Z : SOut → Prop} : At (.exc c st) (zTry ys l Z) = At (runH ys l c st) Z := rfl
@[simp] theorem zUn_nx {i : Nat} {Z : SOut → Prop} : At (.nx st) (zUn i Z) = At (.nx (st.wipe [i])) Z := rfl
@[simp] theorem zUn_bk {i : Nat} {Z : SOut → Prop} : At (.bk st) (zUn i Z) = At (.bk (st.wipe [i])) Z := rfl
@[simp] theorem zUn_ct {i : Nat} {Z : SOut → Prop} : At (.ct st) (zUn i Z) = At (.ct (st.wipe [i])) Z := rfl
@[simp] theorem zUn_sh {i : Nat} {Z : SOut → Prop} : At (.rt (.sh d) st) (zUn i Z) = At (.rt (.sh d) (st.wipe [i])) Z := rfl
@[simp] theorem zUn_ow {i : Nat} {Z : SOut → Prop} {c : Cell} : At (.rt (.ow c) st) (zUn i Z) = At (.rt (.ow c) (st.wipe [i])) Z := rfl
@[simp] theorem zNo_nx {Z : SOut → Prop} : At (.nx st) (zNo Z) = At (.nx st) Z := rfl
@[simp] theorem zNo_rt {Z : SOut → Prop} : At (.rt r st) (zNo Z) = At (.rt r st) Z := rfl
@[simp] theorem zNo_bk {Z : SOut → Prop} : At (.bk st) (zNo Z) = At (.bk st) Z := rfl
@[simp] theorem zNo_ct {Z : SOut → Prop} : At (.ct st) (zNo Z) = At (.ct st) Z := rfl
@[simp] theorem zMk_n {i : Nat} {Z : Out RV → Prop} : At (.ret (.sh .non) s) (zMk i st Z) = At (.ok (.sh (.obj i)) { st with store := s }) Z := rfl
@[simp] theorem zMk_x {i : Nat} {Z : Out RV → Prop} : At (.exc c s) (zMk i st Z) = At (.exc c { st with store := s }) Z := rfl
@[simp] theorem zNx_ok {Z : Out RV → Prop} : At (.ok r st) (zNx Z) = At (.ok r st) Z := rfl
/-! loops -/
/-- one round of a for -/
def kFs (g : D → State → Option State) (x : MS) (d : D) (st : State) : SOut := match g d st with
  | some st1 => x st1
  | none => .stuck
def kFo (x : MS) (o : Option State) : SOut := match o with
  | some st1 => x st1
  | none => .stuck
@[simp] theorem kFs_e {g : D → State → Option State} {x : MS} : kFs g x d st = kFo x (g d st) := rfl
@[simp] theorem kFo_s {x : MS} : kFo x (some st) = x st := rfl
theorem at_forB {g : D → State → Option State} {x : MS} (J : Nat → State → Prop) (B : State → Prop) (R : RV → State → Prop) : ∀ (ds : List D) (k : Nat) (st : State) {K : SOut → Prop}, J k st →
    (∀ j st d, ds[j]? = some d → J (k + j) st → ∀ Z : SOut → Prop, (∀ st', J (k + j + 1) st' → Z (.nx st')) → (∀ st', J (k + j + 1) st' → Z (.ct st')) → (∀ st', B st' → Z (.bk st')) → (∀ r st', R r st' → Z (.rt r st')) → At (kFs g x d st) Z) →
    (∀ st', J (k + ds.length) st' → At (.nx st') K) → (∀ st', B st' → At (.nx st') K) → (∀ r st', R r st' → At (.rt r st') K) → At (mForL g x ds st) K
  | [], k, st, K, h, _, hk, _, _ => hk st h
  | d :: ds, k, st, K, h, hs, hk, hb, hr => by
    have rest : ∀ st', J (k + 1) st' → At (mForL g x ds st') K := fun st' h' => at_forB J B R ds (k + 1) st' h' (fun j st d' hd hJ => by
      have := hs (j + 1) st d' (by simpa using hd) (by rw [show k + (j + 1) = k + 1 + j by omega]; exact hJ)
      rwa [show k + (j + 1) + 1 = k + 1 + j + 1 by omega] at this) (fun st' hJ => hk st' (by rw [List.length_cons, show k + (ds.length + 1) = k + 1 + ds.length by omega]; exact hJ)) hb hr
    have e : mForL g x (d :: ds) st = (kFs g x d st).lp (mForL g x ds) := by
      rw [r_fors]
      cases e : g d st <;> simp [kFb, kFs, kFo, e]
    rw [e, at_lp]
    exact hs 0 st d rfl h _ rest rest hb hr
theorem at_for {g : D → State → Option State} {x : MS} {ds : List D} {st : State} {K : SOut → Prop} (J : Nat → State → Prop) (h : J 0 st)
    (hs : ∀ j st d, ds[j]? = some d → J j st → ∀ Z : SOut → Prop, (∀ st', J (j + 1) st' → Z (.nx st')) → (∀ st', J (j + 1) st' → Z (.ct st')) → At (kFs g x d st) Z)
    (hk : ∀ st', J ds.length st' → At (.nx st') K) : At (mForL g x ds st) K :=
  at_forB J (fun _ => False) (fun _ _ => False) ds 0 st h (fun j st d hd hJ Z h1 h2 _ _ => by rw [Nat.zero_add] at *; exact hs j st d hd hJ Z h1 h2) (fun st' h => hk st' (by rwa [Nat.zero_add] at h)) (fun _ h => h.elim) (fun _ _ h => h.elim)
/-- one round of a while: at its end it breaks -/
def kWs (x : MS) (k : Bool) (st : State) : SOut := if k then x st else .bk st
@[simp] theorem kWs_t {x : MS} : kWs x true st = x st := rfl
@[simp] theorem kWs_f {x : MS} : kWs x false st = .bk st := rfl
/-- one round of a comprehension -/
def kCe2 (d : D) (st : State) : Out (Option D) := .ok (some d) st
def kCe1 (r : RV) (st : State) : Out (Option D) := (RV.frz r st).bd kCe2
def kCe (e : M RV) (k : Bool) (st : State) : Out (Option D) := if k then (e st).bd kCe1 else .ok none st
@[simp] theorem kCe2_e : kCe2 d st = .ok (some d) st := rfl
@[simp] theorem kCe1_e : kCe1 r st = (RV.frz r st).bd kCe2 := rfl
@[simp] theorem kCe_t {e : M RV} : kCe e true st = (e st).bd kCe1 := rfl
@[simp] theorem kCe_f {e : M RV} : kCe e false st = .ok none st := rfl
def kCs (t : M Bool) (e : M RV) (o : Option State) : Out (Option D) := match o with
  | some st1 => (t st1).bd (kCe e)
  | none => .stuck
@[simp] theorem kCs_s {t : M Bool} {e : M RV} : kCs t e (some st) = (t st).bd (kCe e) := rfl
theorem at_compL {own : List Nat} {g : D → State → Option State} {t : M Bool} {e : M RV} {env0 : List Slot} (hw : wipeE env0 own = env0) (J : Nat → List Cell → List D → Prop) : ∀ (ds : List D) (k : Nat) (acc : List D) (store : List Cell) {K : Out (List D) → Prop}, J k store acc → acc.length + ds.length ≤ lim →
    (∀ j s acc d, ds[j]? = some d → J (k + j) s acc → ∀ Z : Out (Option D) → Prop, (∀ y env3 s', wipeE env3 own = env0 → J (k + j + 1) s' (acc ++ [y]) → Z (.ok (some y) ⟨env3, s'⟩)) → (∀ env3 s', wipeE env3 own = env0 → J (k + j + 1) s' acc → Z (.ok none ⟨env3, s'⟩)) → At (kCs t e (g d ⟨env0, s⟩)) Z) →
    (∀ s' xs, J (k + ds.length) s' xs → At (.ok xs ⟨env0, s'⟩) K) → At (mCompL own g t e ds acc ⟨env0, store⟩) K
  | [], k, acc, store, K, h, _, _, hk => hk _ _ h
  | d :: ds, k, acc, store, K, h, hl, hs, hk => by
    have hl' : acc.length + (ds.length + 1) ≤ lim := hl
    have rest : ∀ s' acc', acc'.length ≤ acc.length + 1 → J (k + 1) s' acc' → At (mCompL own g t e ds acc' ⟨env0, s'⟩) K := fun s' acc' ha h' => at_compL hw J ds (k + 1) acc' s' h' (by omega) (fun j s acc d' hd hJ => by
      have := hs (j + 1) s acc d' (by simpa using hd) (by rw [show k + (j + 1) = k + 1 + j by omega]; exact hJ)
      rwa [show k + (j + 1) + 1 = k + 1 + j + 1 by omega] at this) (fun s' xs hJ => hk s' xs (by rw [List.length_cons, show k + (ds.length + 1) = k + 1 + ds.length by omega]; exact hJ))
    let G : Out (Option D) → Out (List D) := fun o => match o with
      | .ok (some y) st3 => if acc.length < lim then mCompL own g t e ds (acc ++ [y]) (st3.wipe own) else .stuck
      | .ok none st3 => mCompL own g t e ds acc (st3.wipe own)
      | _ => .stuck
    have e1 : mCompL own g t e (d :: ds) acc ⟨env0, store⟩ = G (kCs t e (g d ⟨env0, store⟩)) := by
      simp only [mCompL, wipe_e, hw, kCs, G]
      cases g d ⟨env0, store⟩ with
      | none => rfl
      | some st1 =>
        simp only
        cases h2 : t st1 with
        | ok k st2 =>
          cases k with
          | false => simp [kCe, Out.bd]
          | true =>
            have e3 : M.frz e st2 = (e st2).bd RV.frz := r_frz
            simp only [kCe, Out.bd, e3, if_true]
            cases h4 : e st2 with
            | ok r st3 =>
              simp only [Out.bd, kCe1]
              cases h5 : RV.frz r st3 <;> simp [Out.bd, kCe2]
            | exc c st3 => simp [Out.bd]
            | stuck => simp [Out.bd]
        | exc c st2 => rfl
        | stuck => rfl
    rw [e1]
    refine hs 0 store acc d rfl h (fun o => K (G o)) (fun y env3 s' hw3 hJ => ?_) (fun env3 s' hw3 hJ => ?_)
    · show K (if acc.length < lim then mCompL own g t e ds (acc ++ [y]) (State.wipe ⟨env3, s'⟩ own) else .stuck)
      rw [if_pos (by omega), wipe_e, hw3]
      exact rest s' _ (by simp) hJ
    · show K (mCompL own g t e ds acc (State.wipe ⟨env3, s'⟩ own))
      rw [wipe_e, hw3]
      exact rest s' _ (by omega) hJ
theorem at_co {own : List Nat} {g : D → State → Option State} {t : M Bool} {e : M RV} {env : List Slot} {store : List Cell} {ds : List D} {K : Out RV → Prop} (env0 : List Slot) (J : Nat → List Cell → List D → Prop) (hw0 : wipeE env own = env0) (hw : wipeE env0 own = env0) (h : J 0 store []) (hl : ds.length ≤ lim)
    (hs : ∀ j s acc d, ds[j]? = some d → J j s acc → ∀ Z : Out (Option D) → Prop, (∀ y env3 s', wipeE env3 own = env0 → J (j + 1) s' (acc ++ [y]) → Z (.ok (some y) ⟨env3, s'⟩)) → (∀ env3 s', wipeE env3 own = env0 → J (j + 1) s' acc → Z (.ok none ⟨env3, s'⟩)) → At (kCs t e (g d ⟨env0, s⟩)) Z)
    (hk : ∀ s' xs, J ds.length s' xs → At (.ok (.ow (.ls xs)) ⟨env0, s'⟩) K) : At (kCo own g t e ds ⟨env, store⟩) K := by
  rw [kCo_e, wipe_e, hw0]
  refine at_compL (K := fun o => K (kCo2 o)) hw J ds 0 [] store h (by simpa using hl) (fun j s acc d hd hJ => ?_) (fun s' xs hJ => ?_)
  · rw [Nat.zero_add] at *
    exact hs j s acc d hd hJ
  · rw [Nat.zero_add] at hJ
    exact hk s' xs hJ
/-- a comprehension that draws nothing: item by item, by a table -/
theorem at_coP {own : List Nat} {g : D → State → Option State} {t : M Bool} {e : M RV} {env : List Slot} {store : List Cell} {ds : List D} {K : Out RV → Prop} (env0 : List Slot) (f : D → Option D) (hw0 : wipeE env own = env0) (hw : wipeE env0 own = env0) (hl : ds.length ≤ lim)
    (hs : ∀ d ∈ ds, ∀ Z : Out (Option D) → Prop, (∀ env3, wipeE env3 own = env0 → Z (.ok (f d) ⟨env3, store⟩)) → At (kCs t e (g d ⟨env0, store⟩)) Z)
    (hk : At (.ok (.ow (.ls (ds.filterMap f))) ⟨env0, store⟩) K) : At (kCo own g t e ds ⟨env, store⟩) K := by
  refine at_co env0 (fun j s acc => s = store ∧ acc = (ds.take j).filterMap f) hw0 hw ⟨rfl, by simp⟩ hl (fun j s acc d hd hJ Z h1 h2 => ?_) (fun s' xs hJ => ?_)
  · obtain ⟨rfl, rfl⟩ := hJ
    refine hs d (List.mem_of_getElem? hd) Z fun env3 hw3 => ?_
    have et : ds.take (j + 1) = ds.take j ++ [d] := by
      rw [List.take_succ, hd]
      rfl
    cases e : f d with
    | some y => exact h1 y env3 _ hw3 ⟨rfl, by rw [et, List.filterMap_append]; simp [e]⟩
    | none => exact h2 env3 _ hw3 ⟨rfl, by rw [et, List.filterMap_append]; simp [e]⟩
  · obtain ⟨rfl, rfl⟩ := hJ
    rw [List.take_length]
    exact hk
end
end PM
set_option Elab.async false
set_option linter.all false
set_option maxRecDepth 100000
set_option maxHeartbeats 1200000
namespace PM
open PySem PySem.Spec L2
/-! ### {k: v for x in xs if t} -/
def mDCL (own : List Nat) (g : D → State → Option State) (t : M Bool) (ek ev : M RV) : List D → List (Key × D) → M (List (Key × D))
  | [], acc => M.pure acc
  | d :: ds, acc => fun st => match g d (st.wipe own) with
    | none => .stuck
    | some st1 => match t st1 with
      | .ok true st2 => match ek.frz st2 with
        | .ok x st3 => match ev.frz st3 with
          | .ok y st4 => match asKey x with
            | some k => if acc.length < lim then mDCL own g t ek ev ds (dput acc k y) (st4.wipe own) else .stuck
            | none => .stuck
          | _ => .stuck
        | _ => .stuck
      | .ok false st2 => mDCL own g t ek ev ds acc (st2.wipe own)
      | _ => .stuck
def mDComp (own : List Nat) (it : M (List D)) (g : D → State → Option State) (t : M Bool) (ek ev : M RV) : M RV := it.bind fun ds st => match mDCL own g t ek ev ds [] (st.wipe own) with
  | .ok xs st' => .ok (.ow (.dc xs)) st'
  | _ => .stuck
end PM
set_option Elab.async false
set_option linter.all false
set_option maxRecDepth 100000
set_option maxHeartbeats 1200000
namespace PM
open PySem PySem.Spec L2
/-! ### texts by their signs -/
def tx (l : List Nat) : Str := ⟨l.toArray⟩
@[simp] theorem tx_l (l : List Nat) : (tx l).cps.toList = l := rfl
theorem tx_of (x : Str) : tx x.cps.toList = x := TL.mk_tl x
@[simp] theorem tx_len (l : List Nat) : (tx l).length = l.length := by simp [tx, Str.length]
@[simp] theorem tx_cat (a b : List Nat) : tx a ++ tx b = tx (a ++ b) := TL.ext_tl (TL.tl_append (tx a) (tx b))
theorem tx_inj {a b : List Nat} (h : tx a = tx b) : a = b := congrArg (fun x : Str => x.cps.toList) h
theorem cut_tx (l : List Nat) (lo hi : Option Int) : cutS (tx l) lo hi = tx (cut l lo hi) := by
  show (⟨(((tx l).cps.toList.drop (HT.sIx (tx l).length 0 lo)).take (HT.sIx (tx l).length (tx l).length hi - HT.sIx (tx l).length 0 lo)).toArray⟩ : Str) = _
  rw [tx_len]
  rfl
theorem cut_to {α : Type} (l : List α) (k : Nat) : cut l none (some (k : Int)) = l.take k := by
  unfold cut
  rw [HT.sIx_none, HT.sIx_nat, List.drop_zero, Nat.sub_zero]
  by_cases h : k ≤ l.length
  · rw [Nat.min_eq_left h]
  · rw [Nat.min_eq_right (by omega), List.take_of_length_le (Nat.le_refl _), List.take_of_length_le (by omega)]
theorem cut_from {α : Type} (l : List α) (k : Nat) : cut l (some (k : Int)) none = l.drop k := by
  unfold cut
  rw [HT.sIx_none, HT.sIx_nat]
  by_cases h : k ≤ l.length
  · rw [Nat.min_eq_left h, List.take_of_length_le (by rw [List.length_drop]; exact Nat.le_refl _)]
  · rw [Nat.min_eq_right (by omega), List.drop_eq_nil_of_le (Nat.le_refl _), List.drop_eq_nil_of_le (by omega), List.take_nil]
@[simp] theorem opSl_tx {l : List Nat} {lo hi : Option Int} (h : l.length ≤ lim) : opSl (.str (tx l)) lo hi = some (.sh (.str (tx (cut l lo hi)))) := by
  show (if (tx l).length ≤ lim then some (RV.sh (.str (cutS (tx l) lo hi))) else none) = _
  rw [tx_len, if_pos h, cut_tx]
@[simp] theorem opLen_tx {l : List Nat} (h : l.length ≤ lim) : opLen (.str (tx l)) = some (.sh (.int (l.length : Nat))) := by
  simp [opLen, h]
@[simp] theorem opAdd_tx {a b : List Nat} (h : a.length + b.length ≤ lim) : opAdd (.str (tx a)) (.str (tx b)) = some (.sh (.str (tx (a ++ b)))) := by
  simp [opAdd, h]
@[simp] theorem beq_tx {a b : List Nat} : (tx a == tx b) = decide (a = b) := by
  by_cases h : a = b
  · subst h; simp
  · rw [decide_eq_false h]
    exact beq_false_of_ne fun z => h (tx_inj z)
/-! ### digits -/
end PM
set_option Elab.async false
set_option linter.all false
set_option maxRecDepth 100000
set_option maxHeartbeats 1200000
namespace PM
open PySem PySem.Spec L2
open PyProof.Rows (sortedS risingS)
/-! ### sorted texts -/
end PM
set_option Elab.async false
set_option linter.all false
set_option maxRecDepth 100000
set_option maxHeartbeats 1200000
namespace PM
open PySem PySem.Spec L2
/-! ### sep.join(texts) -/
/-! ### a list, a tuple, a text, so many times -/
theorem tuple_mul1 (l : Addr) (items : Array Value) (n : Nat) (dd : Option Addr) (sl : Array (Option Value)) (u : Tok) :
    Meets (Builtin.«tuple.__mul__» ⟨[.ref l, .int 1 u], []⟩) (fun _ R s => s.heap.get? l = some { cls := .type "tuple", dict := dd, data := .seq items n, slots := sl } ∧ R (.ok (.ret (Value.ref l))) s) :=
  .of_wp fun prog w A R s h => by
    obtain ⟨hp, g, d, tk, os⟩ := s
    obtain ⟨hl, h⟩ := h
    have f1 := AutoSeq1.idx_int
    have c0 : (decide ((1 : Int) < -(2 ^ 63)) || decide ((1 : Int) ≥ 2 ^ 63)) = false := by decide
    have c1 : (items.isEmpty || (1 : Int) == 1) = true := by simp
    wp_walk using wpAny_loadPart' hl
    repeat (first
      | (refine wpAny_ite_false (decide_eq_false (by rw [c0]; exact Bool.false_ne_true)) ?_; wp_walk using wpAny_loadPart' hl)
      | (refine wpAny_ite_true (decide_eq_true (by rw [c1])) ?_; wp_walk using wpAny_loadPart' hl))
    exact ⟨_, rfl, h⟩
def rRepT1 (K : PySem.W.Frag) : R2 := fun x y H Q => ∃ l xs, x = .ref l ∧ y = .int 1 ∧ SqT K H l xs ∧ Q (.ref l) H
section
variable {X : Cx} {E : Ent}
theorem op_repT1 : OpR X (binaryOp .Mult) (rRepT1 X.K) := by
  intro pins s σ H x y v u Q I rx ry h
  obtain ⟨l, xs, rfl, rfl, hT, q⟩ := h
  cases rx
  obtain ⟨t, rfl⟩ := ry
  obtain ⟨its, r, ⟨⟨cls, dd, data, sl⟩, ho, hc, n, hd⟩, hs⟩ := I.tuple hT
  simp only at hc hd
  subst hc hd
  exact wpAny_binaryOp_repeat_ref (T := "tuple") (U := "int") (by decide) ⟨_, ho, rfl⟩ (fun s' => typeIs_int s' 1 t) noFill_tuple_mul F.fills_int_mul F.slot_int_rmul repeat_tuple F.slot_int_index.lookup
    (call_meets F.slot_int_rmul (typeIs_int s 1 t) F.entry_int_rmul (F.args_int_rmul_2 _ _) (int_rmul_tuple 1 t l its.toArray n dd sl)
      ⟨ho, rfl, ⟨_, ho, rfl⟩, call_meets F.slot_tuple_mul ⟨_, ho, rfl⟩ F.entry_tuple_mul (F.args_tuple_mul_2 _ _) (tuple_mul1 l its.toArray n dd sl t) ⟨ho, .ref l, H, I, rfl, q⟩⟩)
/-- a text so many times -/
def repS (a : Str) (n : Nat) : Str := ⟨(List.replicate n a.cps).foldl (· ++ ·) #[]⟩
def rRepS : R2 := fun x y H Q => ∃ a k, x = .str a ∧ y = .int k ∧ 1 ≤ k ∧ k ≤ 1000 ∧ a.length ≤ 1000 ∧ Q (.str (if (k == 1 || a.length == 0) = true then a else repS a k.toNat)) H
theorem rep_fold (l : List Nat) : ∀ (n : Nat) (acc : Array Nat), ((List.replicate n l.toArray).foldl (· ++ ·) acc) = (acc.toList ++ (List.replicate n l).flatten).toArray
  | 0, acc => by simp
  | n + 1, acc => by rw [List.replicate_succ, List.foldl_cons, rep_fold l n]; simp [List.replicate_succ]
theorem repS_tx (l : List Nat) (n : Nat) : repS (tx l) n = tx (List.replicate n l).flatten := by
  unfold repS tx
  congr 1
  have := rep_fold l n #[]
  simpa using this
theorem repS_len (l : List Nat) (n : Nat) : (repS (tx l) n).length = n * l.length := by
  rw [repS_tx, tx_len]
  simp
theorem op_repS : OpR X (binaryOp .Mult) rRepS := by
  intro pins s σ H x y v u Q I rx ry h
  obtain ⟨a, k, rfl, rfl, h1, h2, h3, q⟩ := h
  obtain ⟨t1, rfl⟩ := rx
  obtain ⟨t2, rfl⟩ := ry
  have hlen : a.length * k.toNat ≤ 1000 * 1000 := Nat.mul_le_mul h3 (by omega)
  refine PySem.P.mul_str (by rw [decide_eq_false (by omega), decide_eq_false (by omega)]; rfl) (fun _ _ => ?_) (fun _ _ => ?_) ?_
  · have : (1000 : Int) ≤ (2 ^ 63 - 1) / k := by
      rw [Int.le_ediv_iff_mul_le (by omega)]
      omega
    omega
  · exact decide_eq_false (by rw [sizeLine_eq]; omega)
  · rw [if_neg (by omega)]
    by_cases hc : (k == 1 || a.length == 0) = true
    · rw [if_pos hc] at q ⊢
      exact ⟨.str a, H, I, ⟨t1, rfl⟩, q⟩
    · rw [if_neg hc] at q ⊢
      refine ⟨?_, .str _, H, I.tok _, ⟨_, rfl⟩, q⟩
      have := repS_len a.cps.toList k.toNat
      rw [tx_of] at this
      have e2 : a.cps.toList.length = a.length := by simp [Str.length]
      rw [e2, Nat.mul_comm] at this
      show (repS a k.toNat).length ≤ sizeLine
      rw [this, sizeLine_eq]
      omega
def opMulA (x y : D) : Option RV := match x, y with
  | .lst _, .int _ => opMulL x y
  | .tup ds, .int k => if k = 1 then some (.sh (.tup ds)) else if decide (ds ≠ []) = true ∧ 2 ≤ k ∧ k ≤ 1000 ∧ ds.length ≤ 1000 then some (.sh (.tup (List.replicate k.toNat ds).flatten)) else none
  | .str a, .int k => if 1 ≤ k ∧ k ≤ 1000 ∧ a.length ≤ 1000 then some (.sh (.str (if (k == 1 || a.length == 0) = true then a else repS a k.toNat))) else none
  | _, _ => opMul x y
theorem os_mulA : OpS X E (binaryOp .Mult) opMulA := op_cases fun v w H Q ⟨σ, st, φ, I, x, y, r, R, hx, hy, e, q⟩ => by
  have numb : opMul x y = some r → ∃ r', OpR X (binaryOp .Mult) r' ∧ r' v w H Q := fun e => ⟨_, os_mul, σ, st, φ, I, x, y, r, R, hx, hy, e, q⟩
  cases x with
  | lst ds =>
    cases y with
    | int k => exact ⟨_, os_mulL, σ, st, φ, I, _, _, r, R, hx, hy, e, q⟩
    | _ => exact numb e
  | tup ds =>
    cases y with
    | int k =>
      simp only [opMulA] at e
      obtain ⟨a, vs, rfl, g1, g2⟩ := hx.tup R.ext
      have hw := hy.int
      by_cases h1 : k = 1
      · rw [if_pos h1] at e
        cases e
        subst h1
        have rv : Rv X.K φ I (.tup ds) (.ref a) := hx.elim id fun ⟨_, c, _, e, _⟩ => by cases c <;> cases e
        exact ⟨_, op_repT1, a, vs, rfl, hw, .inl (.inl g1), q.sh R rv⟩
      · rw [if_neg h1] at e
        by_cases h2 : decide (ds ≠ []) = true ∧ 2 ≤ k ∧ k ≤ 1000 ∧ ds.length ≤ 1000
        · rw [if_pos h2] at e
          cases e
          have hne : vs ≠ [] := fun z => (of_decide_eq_true h2.1) (List.eq_nil_of_length_eq_zero (by rw [g2.len, z]; rfl))
          exact ⟨_, op_repT, a, k, vs, rfl, hw, .inl (.inl g1), hne, h2.2.1, h2.2.2.1, by rw [← g2.len]; exact h2.2.2.2, q.tup R (g2.rep _)⟩
        · rw [if_neg h2] at e
          cases e
    | _ => exact numb e
  | str a =>
    cases y with
    | int k =>
      simp only [opMulA] at e
      by_cases h : 1 ≤ k ∧ k ≤ 1000 ∧ a.length ≤ 1000
      · rw [if_pos h] at e
        cases e
        exact ⟨_, op_repS, a, k, hx.str, hy.int, h.1, h.2.1, h.2.2, q.sh R (.str _)⟩
      · rw [if_neg h] at e
        cases e
    | _ => exact numb e
  | _ => exact numb (by cases y <;> exact e)
end
end PM
set_option Elab.async false
set_option linter.all false
set_option maxRecDepth 100000
set_option maxHeartbeats 1200000
namespace PM
open PySem PySem.Spec L2
/-! ### dict(pairs) -/
theorem Af.dc {K : PySem.W.Frag} {E : Ent} {σ : L2.St} {H : Hp} {st : State} {φ : List Addr} {I : Hp} {kvs : List (Key × D)} {us : List (Key × V)} {Q : VK} (h : Af K E σ H st φ I (.ow (.dc kvs)) Q) (R : Rp K E σ H st φ I) (h1 : us.map (·.1) = kvs.map (·.1)) (h2 : Rvs K φ I (kvs.map (·.2)) (us.map (·.2))) : ∀ p, H p = none → Q (.ref p) (upd H p (.dK us)) := fun p hp => by
  obtain ⟨R2, S2⟩ := R.laidO hp (.dK us)
  obtain ⟨h0, hφ, hI, ho⟩ := R.fresh hp
  exact h _ _ _ S2 R2 ⟨p, rfl, ⟨_, upd_same, hI, .dc h1 h2⟩, hφ, h0, ho⟩ fun a c _ e => by cases e; exact hp
end PM
set_option Elab.async false
set_option linter.all false
set_option maxRecDepth 100000
set_option maxHeartbeats 1200000
namespace PM
open PySem PySem.Spec L2
/-! ### {**d, k: v}: the model's part -/
/-! ### .. its rule -/
/-- {**a, k: v} -/
def mDStar (a k v : M RV) : M RV := a.frz.bind fun d => match d with
  | .dct kvs => if kvs.length ≤ lim then k.frz.bind fun kd => v.frz.bind fun vd => (match asKey kd with
    | some key => M.pure (.ow (.dc (dput (mergeD [] kvs) key vd)))
    | none => M.stuck) else M.stuck
  | _ => M.stuck
section
variable {K : PySem.W.Frag} {E : Ent} {σ : L2.St} {H H' : Hp} {st st' : State} {φ φ' : List Addr} {I I' : Hp}
/-- nobody knows of what stands at q -/
structure Junk (E : Ent) (σ : L2.St) (st : State) (φ : List Addr) (I : Hp) (q : Addr) : Prop where
  i : I q = none
  f : q ∉ φ
  h0 : E.H0 q = none
  o : ∀ i, ¬ Owns st.env σ i q
theorem Junk.step {q : Addr} {o : HO} (j : Junk E σ st φ I q) (S : Stp σ H st φ I H' st' φ' I') (e : H q = some o) : Junk E σ st' φ' I' q ∧ H' q = some o := by
  refine ⟨⟨?_, fun z => ?_, j.h0, fun i z => j.o i (S.ow i q z)⟩, S.fr q o e j.f j.o⟩
  · cases z : I' q with
    | none => rfl
    | some u =>
      rcases S.inf q (by rw [z]; simp) j.i with y | y | ⟨i, y⟩
      · rw [e] at y; cases y
      · exact absurd y j.f
      · exact absurd y (j.o i)
  · have := S.nf q z j.f
    rw [e] at this
    cases this
theorem Junk.new {q : Addr} (R : Rp K E σ H st φ I) (h : H q = none) : Junk E σ st φ I q := by
  obtain ⟨h0, hφ, hI, ho⟩ := R.fresh h
  exact ⟨hI, hφ, h0, ho⟩
end
end PM
set_option Elab.async false
set_option linter.all false
set_option maxRecDepth 100000
set_option maxHeartbeats 1200000
namespace PM
open PySem PySem.Spec L2
/-! ### a dict of dicts that were in the store: none of them is written any more -/
def sealK : List (Key × D) → List Cell → Option (List (Key × D) × List Cell)
  | [], s => some ([], s)
  | (k, .obj n) :: r, s => match s[n]? with
    | some (.dc us) => (sealK r (s.set n .dead)).map fun x => ((k, .dct us) :: x.1, x.2)
    | _ => none
  | kd :: r, s => (sealK r s).map fun x => (kd :: x.1, x.2)
def mSeal (m : M RV) : M RV := m.frz.bind fun d st => match d with
  | .dct kvs => match sealK kvs st.store with
    | some x => .ok (.sh (.dct x.1)) { st with store := x.2 }
    | none => .stuck
  | _ => .stuck
/-! evaluation -/
end PM
set_option Elab.async false
set_option linter.all false
set_option maxRecDepth 100000
set_option maxHeartbeats 2000000
namespace PM
open PySem PySem.Spec PyProof.Rows L2
/-! ### {e for x in xs if t}, e a text or an int; looked at by len alone -/
/-! the run -/
def hasK (acc : List Key) (k : Key) : Bool := acc.any fun j => decide (k = j)
def sadd (acc : List Key) (k : Key) : List Key := if hasK acc k then acc else acc ++ [k]
def mSCL (own : List Nat) (g : D → State → Option State) (t : M Bool) (ek : M RV) : List D → List Key → M (List Key)
  | [], acc => M.pure acc
  | d :: ds, acc => fun st => match g d (st.wipe own) with
    | none => .stuck
    | some st1 => match t st1 with
      | .ok true st2 => match ek.frz st2 with
        | .ok x st3 => match asKey x with
          | some k => if acc.length < 4095 then mSCL own g t ek ds (sadd acc k) (st3.wipe own) else .stuck
          | none => .stuck
        | _ => .stuck
      | .ok false st2 => mSCL own g t ek ds acc (st2.wipe own)
      | _ => .stuck
def mSLen (own : List Nat) (it : M (List D)) (g : D → State → Option State) (t : M Bool) (ek : M RV) : M RV := it.bind fun ds st => match mSCL own g t ek ds [] (st.wipe own) with
  | .ok xs st' => .ok (.sh (.int xs.length)) st'
  | _ => .stuck
end PM
set_option Elab.async false
set_option linter.all false
set_option maxRecDepth 100000
set_option maxHeartbeats 1200000
namespace PM
open PySem PySem.Spec L2
open PyProof.Rows (tuples' seqObj sortedAll_at sortedAll_old lexLt itemOrd tupItems tupKey tupKind TupsOf TupOf)
/-! ### sorted tuples of texts and ints -/
def itm : Key → Int ⊕ List Nat
  | .inl i => .inl i
  | .inr s => .inr s.cps.toList
/-- a tuple of the heap with these items -/
def HasT (h : Heap) (sh : Nat → Bool) (v : Value) (ks : List Key) : Prop := ∃ t o its n, v = .ref t ∧ h.get? t = some o ∧ o.cls = .type "tuple" ∧ o.data = .seq its n ∧ tupItems sh 0 its.toList = some (ks.map itm) ∧ ks ≠ []
theorem HasT.key {h : Heap} {sh : Nat → Bool} {v : Value} {ks : List Key} (x : HasT h sh v ks) : tupKey h sh v = some (ks.map itm) := by
  obtain ⟨t, o, its, n, rfl, ho, _, hd, hi, _⟩ := x
  simp only [tupKey, ho, hd, hi]
theorem HasT.tup {h : Heap} {sh : Nat → Bool} {v : Value} {ks : List Key} (x : HasT h sh v ks) : ∃ f, TupOf h sh v f := by
  obtain ⟨t, o, its, n, rfl, ho, hc, hd, hi, hne⟩ := x
  obtain ⟨its⟩ := its
  cases its with
  | nil =>
    cases ks with
    | nil => exact absurd rfl hne
    | cons k ks => simp [tupItems] at hi
  | cons f r =>
    refine ⟨f, t, o, _, n, rfl, ho, hc, hd, by simp, fun hs => ?_, fun hs => ?_⟩
    · obtain ⟨m, u, _, e, _⟩ := PyProof.Rows.tupItems_int hs hi
      exact ⟨m, u, e⟩
    · obtain ⟨m, u, _, e, _⟩ := PyProof.Rows.tupItems_str hs hi
      exact ⟨m, u, e⟩
theorem HasT.keeps {h h' : Heap} {sh : Nat → Bool} {v : Value} {ks : List Key} (x : HasT h sh v ks) (k : ∀ b o, h.get? b = some o → o.cls = .type "tuple" → h'.get? b = some o) : HasT h' sh v ks := by
  obtain ⟨t, o, its, n, e, ho, hc, r⟩ := x
  exact ⟨t, o, its, n, e, k t o ho hc, hc, r⟩
end PM
set_option Elab.async false
set_option linter.all false
set_option maxRecDepth 100000
set_option maxHeartbeats 1200000
namespace PM
open PySem PySem.Spec L2
/-! ### sum of a list of ints -/
end PM
set_option Elab.async false
set_option linter.all false
set_option maxRecDepth 100000
set_option maxHeartbeats 1200000
namespace PM
open PySem PySem.Spec L2
/-! ### more rules for reckoning -/
section
variable {st : State} {m a b c : M RV} {ml : M (List D)} {own : List Nat} {g : D → State → Option State} {e : M RV}
/-- a comprehension without a test, whose rounds leave the state -/
theorem kCo_map (k : D → D) {ds : List D} (hl : ds.length ≤ lim) (hw : (st.wipe own).wipe own = st.wipe own) (h : ∀ d ∈ ds, ∃ st1 st3, g d (st.wipe own) = some st1 ∧ e.frz st1 = .ok (k d) st3 ∧ st3.wipe own = st.wipe own) : kCo own g mYes e ds st = .ok (.ow (.ls (ds.map k))) (st.wipe own) := by
  rw [comp_filter (fun _ => true) k hl (fun d m => ?_) hw]
  · rw [List.filter_eq_self.mpr fun _ _ => rfl]
  · obtain ⟨st1, st3, h1, h2, h3⟩ := h d m
    exact ⟨st1, st1, h1, rfl, (fun z => by cases z), fun _ => ⟨st3, h2, h3⟩⟩
theorem asBs_map {α : Type} (f : α → Bool) : ∀ l : List α, asBs (l.map fun d => D.bl (f d)) = some (l.map f)
  | [] => rfl
  | a :: l => by simp [asBs, asBs_map f l]
theorem opAll_m {α : Type} (f : α → Bool) (l : List α) : opAll (.lst (l.map fun d => .bl (f d))) = some (.sh (.bl (l.all f))) := by
  have e : opAll (.lst (l.map fun d => .bl (f d))) = (asBs (l.map fun d => D.bl (f d))).map fun bs => RV.sh (.bl (bs.all id)) := rfl
  rw [e, asBs_map, Option.map_some, List.all_map]
  rfl
@[simp] theorem opLen_l {ds : List D} : opLen (.lst ds) = some (.sh (.int ds.length)) := rfl
@[simp] theorem opLen_t {ds : List D} : opLen (.tup ds) = some (.sh (.int ds.length)) := rfl
@[simp] theorem opLen_lF {ds : List D} : opLen (.lsF ds) = some (.sh (.int ds.length)) := rfl
@[simp] theorem opLen_tF {ds : List D} : opLen (.tpF ds) = some (.sh (.int ds.length)) := rfl
@[simp] theorem opLen_d {ds : List (Key × D)} : opLen (.dct ds) = some (.sh (.int ds.length)) := rfl
@[simp] theorem opTuple_l {ds : List D} : opTuple (.lst ds) = some (.sh (.tup ds)) := rfl
@[simp] theorem opTuple_t {ds : List D} : opTuple (.tup ds) = some (.sh (.tup ds)) := rfl
@[simp] theorem opTuple_lF {ds : List D} : opTuple (.lsF ds) = some (.sh (.tup ds)) := rfl
@[simp] theorem opList_l {ds : List D} : opList (.lst ds) = some (.ow (.ls ds)) := rfl
@[simp] theorem is2_nn : opIs2 .non .non = some true := rfl
@[simp] theorem is2_tn {ds : List D} : opIs2 (.tup ds) .non = some false := rfl
@[simp] theorem is2_in {i : Int} : opIs2 (.int i) .non = some false := rfl
@[simp] theorem is2_sn {i : Str} : opIs2 (.str i) .non = some false := rfl
@[simp] theorem is2_bb {x y : Bool} : opIs2 (.bl x) (.bl y) = some (decide (x = y)) := rfl
@[simp] theorem isn2_nn : opIsNot2 .non .non = some false := rfl
@[simp] theorem isn2_tn {ds : List D} : opIsNot2 (.tup ds) .non = some true := rfl
@[simp] theorem isn2_in {i : Int} : opIsNot2 (.int i) .non = some true := rfl
@[simp] theorem isn2_bb {x y : Bool} : opIsNot2 (.bl x) (.bl y) = some (!decide (x = y)) := rfl
@[simp] theorem isi_tt {ds : List D} : opIsi (.tup ds) (.val (.ty "tuple")) = some (.sh (.bl true)) := by simp [opIsi, opKind]; decide +kernel
@[simp] theorem isi_lt {ds : List D} : opIsi (.lst ds) (.val (.ty "tuple")) = some (.sh (.bl false)) := by simp [opIsi, opKind]; decide +kernel
@[simp] theorem isi_ii {i : Int} : opIsi (.int i) (.val (.ty "int")) = some (.sh (.bl true)) := by simp [opIsi, opKind]; decide +kernel
@[simp] theorem isi_ib {i : Int} : opIsi (.int i) (.val (.ty "bool")) = some (.sh (.bl false)) := by simp [opIsi, opKind]; decide +kernel
/-! append, extend, pop .. -/
def kMu3 (f : List D → List D → Option (D × List D)) (r : RV) (ds : List D) (st : State) : Out RV := match upC (lsC f ds) r st with
  | some (d, st') => .ok (.sh d) st'
  | none => .stuck
def kMu2 (f : List D → List D → Option (D × List D)) (ml : M (List D)) (r : RV) (u : Unit) (st : State) : Out RV := (ml st).bd (kMu3 f r)
def kMu (f : List D → List D → Option (D × List D)) (ml : M (List D)) (r : RV) (st : State) : Out RV := (Out.opt (on1 isLs (view st r.bor)) st).bd (kMu2 f ml r.bor)
@[simp] theorem kMu2_e {f : List D → List D → Option (D × List D)} {r : RV} {u : Unit} : kMu2 f ml r u st = (ml st).bd (kMu3 f r) := rfl
@[simp] theorem kMu_e {f : List D → List D → Option (D × List D)} {r : RV} : kMu f ml r st = (Out.opt (on1 isLs (view st r.bor)) st).bd (kMu2 f ml r.bor) := rfl
@[simp] theorem isLs_e {ds : List D} : isLs (.lst ds) = some () := rfl
theorem r_mut' {f : List D → List D → Option (D × List D)} {r : RV} : ((at1 isLs r).bind fun _ => ml.bind (kMu3 f r)) st = (Out.opt (on1 isLs (view st r)) st).bd (kMu2 f ml r) := by
  show M.bind _ _ st = _
  rw [r_bind, r_at1]
  cases Out.opt (on1 isLs (view st r)) st <;> rfl
@[simp] theorem r_mut {f : List D → List D → Option (D × List D)} : mMut f a ml st = (a st).bd (kMu f ml) := by
  refine Eq.trans (r_b1 (a := a) (st := st) (G := fun r => ((at1 isLs r).bind fun _ => ml.bind (kMu3 f r)))) ?_
  cases a st with
  | ok r st1 => exact r_mut'
  | exc => rfl
  | stuck => rfl
theorem fApp_e {ds : List D} {d : D} (h : ds.length < lim) : fApp ds [d] = some (.non, ds ++ [d]) := if_pos h
@[simp] theorem isi_l2 {ds : List D} : opIsi (.lst ds) (.tup [.val (.ty "list"), .val (.ty "tuple")]) = some (.sh (.bl true)) := by simp [opIsi, opKind, tysOf]; decide +kernel
@[simp] theorem isi_t2 {ds : List D} : opIsi (.tup ds) (.tup [.val (.ty "list"), .val (.ty "tuple")]) = some (.sh (.bl true)) := by simp [opIsi, opKind, tysOf]; decide +kernel
@[simp] theorem isXG_r {tx tab : IsiT} {bs : List Str} {C : Str} {fs : List (Str × D)} {s : RV} : isXG tx tab bs (.sh (.rcd C fs)) s st = isG tab bs (.sh (.rcd C fs)) s st := rfl
/-- a thing is made and frozen at once -/
theorem mk_fz {C : Str} {F : Fn} {d : D} {fs : List (Str × D)} (hF : F [.obj st.store.length, d] (st.store ++ [.ins C []]) = .ret (.sh .non) (st.store ++ [.ins C fs])) : (kMk C 1 F [d] st).bd kFz = .ok (.sh (.rcd C fs)) { st with store := st.store ++ [.dead] } := by
  rw [kMk_1, hF, kMk2_n]
  show kFz (.sh (.obj st.store.length)) { st with store := st.store ++ [.ins C fs] } = _
  rw [kFz_e (C := C) (fs := fs) (by simp)]
  simp
@[simp] theorem bd_okB {r : RV} : (Out.ok r st).bd okB = okB r st := rfl
@[simp] theorem r_gTL {n : Nat} {r : List D → State → Option State} {ds : List D} : gTL n r (.lst ds) st = if ds.length = n then r ds st else none := rfl
end
end PM
set_option Elab.async false
set_option linter.all false
set_option maxRecDepth 100000
set_option maxHeartbeats 1200000
namespace PM
open PySem PySem.Spec L2
/-! ### how the newer runs are reckoned -/
section
variable {α β : Type} {st : State} {m a k v : M RV} {own : List Nat} {g : D → State → Option State} {t : M Bool} {ek ev : M RV}
theorem bd_bd' {γ : Type} (o : Out α) (f : α → State → Out β) (h : β → State → Out γ) : (o.bd f).bd h = o.bd fun a st => (f a st).bd h := by cases o <;> rfl
/-! sealing -/
def kSl2 (d : D) (st : State) : Out RV := match d with
  | .dct kvs => match sealK kvs st.store with
    | some x => .ok (.sh (.dct x.1)) { st with store := x.2 }
    | none => .stuck
  | _ => .stuck
def kSl (r : RV) (st : State) : Out RV := (RV.frz r st).bd kSl2
@[simp] theorem kSl_e {r : RV} : kSl r st = (RV.frz r st).bd kSl2 := rfl
theorem frz_bd {β : Type} {f : D → M β} : (m.frz.bind f) st = (m st).bd fun r st1 => (RV.frz r st1).bd f := by
  have h1 : m.frz st = (m st).bd RV.frz := r_frz
  have h2 : (m.frz.bind f) st = (m.frz st).bd f := r_bind
  exact h2.trans ((congrArg (fun o => Out.bd o f) h1).trans (bd_bd' (m st) RV.frz f))
@[simp] theorem r_seal' : mSeal m st = (m st).bd kSl := frz_bd
/-! items -/
def kItI2 (d : D) (st : State) : Out (List D) := match d with
  | .dct kvs => .ok (pairI kvs) st
  | _ => .stuck
def kItI (r : RV) (st : State) : Out (List D) := (RV.frz r st).bd kItI2
@[simp] theorem kItI2_e {kvs : List (Key × D)} : kItI2 (.dct kvs) st = .ok (pairI kvs) st := rfl
@[simp] theorem kItI_e {r : RV} : kItI r st = (RV.frz r st).bd kItI2 := rfl
@[simp] theorem r_itI : mItI m st = (m st).bd kItI := by
  have e : (fun d => (match d with
    | .dct kvs => M.pure (pairI kvs)
    | _ => M.stuck : M (List D))) = kItI2 := by
    funext d st
    cases d <;> rfl
  refine (frz_bd (f := fun d => (match d with
    | .dct kvs => M.pure (pairI kvs)
    | _ => M.stuck : M (List D)))).trans ?_
  show (m st).bd (fun r st1 => (RV.frz r st1).bd (fun d => (match d with
    | .dct kvs => M.pure (pairI kvs)
    | _ => M.stuck : M (List D)))) = (m st).bd fun r st1 => (RV.frz r st1).bd kItI2
  exact congrArg (fun z : D → State → Out (List D) => (m st).bd fun r st1 => (RV.frz r st1).bd z) e
/-! {**d, k: v} -/
def kDs5 (kvs : List (Key × D)) (kd vd : D) (st : State) : Out RV := match asKey kd with
  | some key => .ok (.ow (.dc (dput (mergeD [] kvs) key vd))) st
  | none => .stuck
def kDs4 (kvs : List (Key × D)) (kd : D) (r : RV) (st : State) : Out RV := (RV.frz r st).bd (kDs5 kvs kd)
def kDs3 (v : M RV) (kvs : List (Key × D)) (kd : D) (st : State) : Out RV := (v st).bd (kDs4 kvs kd)
def kDs2 (v : M RV) (kvs : List (Key × D)) (r : RV) (st : State) : Out RV := (RV.frz r st).bd (kDs3 v kvs)
def kDs1 (k v : M RV) (d : D) (st : State) : Out RV := match d with
  | .dct kvs => if kvs.length ≤ lim then (k st).bd (kDs2 v kvs) else .stuck
  | _ => .stuck
def kDs0 (k v : M RV) (r : RV) (st : State) : Out RV := (RV.frz r st).bd (kDs1 k v)
@[simp] theorem kDs4_e {kvs : List (Key × D)} {kd : D} {r : RV} : kDs4 kvs kd r st = (RV.frz r st).bd (kDs5 kvs kd) := rfl
@[simp] theorem kDs3_e {kvs : List (Key × D)} {kd : D} : kDs3 v kvs kd st = (v st).bd (kDs4 kvs kd) := rfl
@[simp] theorem kDs2_e {kvs : List (Key × D)} {r : RV} : kDs2 v kvs r st = (RV.frz r st).bd (kDs3 v kvs) := rfl
@[simp] theorem kDs0_e {r : RV} : kDs0 k v r st = (RV.frz r st).bd (kDs1 k v) := rfl
@[simp] theorem kDs5_s {kvs : List (Key × D)} {z : Str} {vd : D} : kDs5 kvs (.str z) vd st = .ok (.ow (.dc (dput (mergeD [] kvs) (.inr z) vd))) st := rfl
@[simp] theorem kDs5_i {kvs : List (Key × D)} {z : Int} {vd : D} : kDs5 kvs (.int z) vd st = .ok (.ow (.dc (dput (mergeD [] kvs) (.inl z) vd))) st := rfl
@[simp] theorem r_dstar : mDStar a k v st = (a st).bd (kDs0 k v) := by
  refine frz_bd.trans ?_
  congr 1
  funext r st1
  show (RV.frz r st1).bd _ = (RV.frz r st1).bd _
  congr 1
  funext d st2
  cases d <;> try rfl
  rename_i kvs
  show (if kvs.length ≤ lim then _ else M.stuck : M RV) st2 = if kvs.length ≤ lim then _ else _
  by_cases h : kvs.length ≤ lim
  · rw [if_pos h, if_pos h]
    refine frz_bd.trans ?_
    congr 1
    funext r st3
    show (RV.frz r st3).bd _ = (RV.frz r st3).bd _
    congr 1
    funext kd st4
    refine frz_bd.trans ?_
    show _ = (v st4).bd (kDs4 kvs kd)
    congr 1
    funext r st5
    show (RV.frz r st5).bd _ = (RV.frz r st5).bd _
    congr 1
    funext vd st6
    unfold kDs5
    cases asKey kd <;> rfl
  · rw [if_neg h, if_neg h]
    rfl
/-! {k: v for ..} that draws nothing -/
def kDe4 (x : D) (y : D) (st : State) : Out (Key × D) := match asKey x with
  | some k => .ok (k, y) st
  | none => .stuck
def kDe3 (x : D) (r : RV) (st : State) : Out (Key × D) := (RV.frz r st).bd (kDe4 x)
def kDe2 (ev : M RV) (x : D) (st : State) : Out (Key × D) := (ev st).bd (kDe3 x)
def kDe1 (ev : M RV) (r : RV) (st : State) : Out (Key × D) := (RV.frz r st).bd (kDe2 ev)
def kDe (ek ev : M RV) (k : Bool) (st : State) : Out (Key × D) := if k then (ek st).bd (kDe1 ev) else .stuck
def kDs (t : M Bool) (ek ev : M RV) (o : Option State) : Out (Key × D) := match o with
  | some st1 => (t st1).bd (kDe ek ev)
  | none => .stuck
@[simp] theorem kDe4_s {z : Str} {y : D} : kDe4 (.str z) y st = .ok (.inr z, y) st := rfl
@[simp] theorem kDe4_i {z : Int} {y : D} : kDe4 (.int z) y st = .ok (.inl z, y) st := rfl
@[simp] theorem kDe3_e {x : D} {r : RV} : kDe3 x r st = (RV.frz r st).bd (kDe4 x) := rfl
@[simp] theorem kDe2_e {x : D} : kDe2 ev x st = (ev st).bd (kDe3 x) := rfl
@[simp] theorem kDe1_e {r : RV} : kDe1 ev r st = (RV.frz r st).bd (kDe2 ev) := rfl
@[simp] theorem kDe_t : kDe ek ev true st = (ek st).bd (kDe1 ev) := rfl
@[simp] theorem kDs_s : kDs t ek ev (some st) = (t st).bd (kDe ek ev) := rfl
def kDco2 (o : Out (List (Key × D))) : Out RV := match o with
  | .ok xs st' => .ok (.ow (.dc xs)) st'
  | _ => .stuck
def kDco (own : List Nat) (g : D → State → Option State) (t : M Bool) (ek ev : M RV) (ds : List D) (st : State) : Out RV := kDco2 (mDCL own g t ek ev ds [] (st.wipe own))
@[simp] theorem r_dcomp {it : M (List D)} : mDComp own it g t ek ev st = (it st).bd (kDco own g t ek ev) := rfl
/-! len({e for ..}) that draws nothing -/
def kSe2 (x : D) (st : State) : Out Key := match asKey x with
  | some k => .ok k st
  | none => .stuck
def kSe1 (r : RV) (st : State) : Out Key := (RV.frz r st).bd kSe2
def kSe (ek : M RV) (k : Bool) (st : State) : Out Key := if k then (ek st).bd kSe1 else .stuck
def kSs (t : M Bool) (ek : M RV) (o : Option State) : Out Key := match o with
  | some st1 => (t st1).bd (kSe ek)
  | none => .stuck
@[simp] theorem kSe2_s {z : Str} : kSe2 (.str z) st = .ok (.inr z) st := rfl
@[simp] theorem kSe2_i {z : Int} : kSe2 (.int z) st = .ok (.inl z) st := rfl
@[simp] theorem kSe1_e {r : RV} : kSe1 r st = (RV.frz r st).bd kSe2 := rfl
@[simp] theorem kSe_t : kSe ek true st = (ek st).bd kSe1 := rfl
@[simp] theorem kSs_s : kSs t ek (some st) = (t st).bd (kSe ek) := rfl
def kSco2 (o : Out (List Key)) : Out RV := match o with
  | .ok xs st' => .ok (.sh (.int xs.length)) st'
  | _ => .stuck
def kSco (own : List Nat) (g : D → State → Option State) (t : M Bool) (ek : M RV) (ds : List D) (st : State) : Out RV := kSco2 (mSCL own g t ek ds [] (st.wipe own))
@[simp] theorem r_slen {it : M (List D)} : mSLen own it g t ek st = (it st).bd (kSco own g t ek) := rfl
end
end PM
set_option Elab.async false
set_option linter.all false
set_option maxRecDepth 100000
set_option maxHeartbeats 1200000
namespace PM
open PySem PySem.Spec L2
/-! ### a, b, c = x, y, z where a tuple is built: what is new stays the frame's own -/
end PM
set_option Elab.async false
set_option linter.all false
set_option maxRecDepth 100000
set_option maxHeartbeats 1200000
namespace PM
open PySem PySem.Spec L2
/-! ### comprehensions with two fors -/
end PM
set_option Elab.async false
set_option linter.all false
set_option maxRecDepth 100000
set_option maxHeartbeats 3200000
namespace PySem
namespace F
end F
end PySem
namespace PM
open PySem PySem.Spec PyProof.Rows L2
/-! ### set(xs) of texts and ints -/
end PM
set_option Elab.async false
set_option linter.all false
set_option maxRecDepth 100000
set_option maxHeartbeats 3200000
namespace PM
open PySem PySem.Spec PyProof.Rows L2
/-! ### a set of texts, whose table rises: it can be walked -/
def tOf (e : Int × Value) : Str := strOf e.2
def GoodT (P : Program) (w : World) (e : Int × Value) : Prop := ∃ z tk, e.2 = Value.str z tk ∧ e.1 = (PySem.strKind P w).hash z
/-- at a a set; zs tells its members -/
def SetT (P : Program) (w : World) (h : Heap) (a : Addr) (zs : List Str) : Prop :=
  ∃ o es ep t, h.get? a = some o ∧ o.ExactSet ∧ o.data = .set es ep t ∧ (∀ e ∈ es.toList, GoodT P w e) ∧ (es.toList.map tOf).Nodup ∧ (∀ z, z ∈ zs ↔ z ∈ es.toList.map tOf) ∧ es.size ≤ zs.length ∧
    es.size < scanBound ∧ t.fits es.size = true ∧ Ris t.place.toList ∧ (w.params.followText "set-order" = true ∨ t.led = true)
section
variable {P : Program} {w : World} {h h' : Heap} {a : Addr} {zs : List Str}
theorem SetT.at (R : SetT P w h a zs) (k : ∀ o, h.get? a = some o → h'.get? a = some o) : SetT P w h' a zs :=
  let ⟨o, es, ep, t, ho, r⟩ := R
  ⟨o, es, ep, t, k o ho, r⟩
end
end PM
set_option Elab.async false
set_option linter.all false
set_option maxRecDepth 100000
set_option maxHeartbeats 3200000
namespace PM
open PySem PySem.Spec PyProof.Rows L2
/-! ### sorted(set(xs)), xs a list of texts -/
end PM
set_option Elab.async false
set_option linter.all false
set_option maxRecDepth 100000
set_option maxHeartbeats 2400000
namespace PM
open PySem PySem.Spec L2 PyProof.Rows
open Classical
/-! ### f(lambda: body): a def that calls what it got -/
/-! the slots that a lambda captures, shared -/
end PM
set_option Elab.async false
set_option linter.all false
set_option maxRecDepth 100000
set_option maxHeartbeats 2400000
namespace PM
open PySem PySem.Spec L2 PyProof.Rows
open Classical
/-! ### what was got is called; a def that calls what it got; f(lambda: body) -/
end PM
set_option Elab.async false
set_option linter.all false
set_option maxRecDepth 100000
set_option maxHeartbeats 2400000
namespace PM
open PySem PySem.Spec L2 PyProof.Rows
open Classical
/-! ### tables at the head -/
end PM
set_option Elab.async false
set_option linter.all false
set_option maxRecDepth 100000
set_option maxHeartbeats 2400000
namespace PM
open PySem PySem.Spec L2 PyProof.Rows
open Classical
/-! ### defs with a lambda: where their code stands; the head's and the law's end with tables -/
end PM
set_option Elab.async false
set_option linter.all false
set_option maxRecDepth 100000
set_option maxHeartbeats 2400000
/-! is x among tuples of one text, whatever x is -/
namespace PM
open PySem PySem.Spec L2 PyProof.Rows
end PM
set_option Elab.async false
set_option linter.all false
set_option maxRecDepth 100000
set_option maxHeartbeats 1200000
namespace PM
open PySem PySem.Spec L2
/-! ### xs.reverse() -/
def fRev (ds : List D) : List D → Option (D × List D)
  | [] => some (.non, ds.reverse)
  | _ => none
/-! ### a, b = x, y where a tuple is built: what is new stays the frame's own -/
end PM
set_option Elab.async false
set_option linter.all false
set_option maxRecDepth 100000
set_option maxHeartbeats 1200000
namespace PM
open PySem PySem.Spec L2
/-! ### return x: the frame's own thing goes to the caller -/
section
variable {K : PySem.W.Frag} {E : Ent} {σ : L2.St} {H : Hp} {st : State} {φ : List Addr} {I : Hp}
theorem un_get {env : List Slot} {i j : Nat} {s : Slot} (h : (env.set i .un)[j]? = some s) (hs : s ≠ .un) : j ≠ i ∧ env[j]? = some s := by
  by_cases e : j = i
  · subst e
    rw [List.getElem?_set] at h
    simp only [if_true] at h
    split at h
    · cases h
      exact absurd rfl hs
    · cases h
  · rw [List.getElem?_set_ne (Ne.symm e)] at h
    exact ⟨e, h⟩
theorem Rp.drop (R : Rp K E σ H st φ I) (i : Nat) : Rp K E σ H { st with env := st.env.set i .un } φ I :=
  ⟨R.ext, R.keep, R.there, R.inew, R.iold, R.pre, R.fl, R.pnew, R.nd, R.len, R.cells, R.pin, by rw [List.length_set]; exact R.elen, fun j d h => R.sh j d (un_get h (by simp)).2, fun j c h => R.ow j c (un_get h (by simp)).2, fun j k a ⟨c, h1, h2⟩ ⟨c', h3, h4⟩ => R.one j k a ⟨c, (un_get h1 (by simp)).2, h2⟩ ⟨c', (un_get h3 (by simp)).2, h4⟩⟩
end
end PM
set_option Elab.async false
set_option linter.all false
set_option maxRecDepth 100000
set_option maxHeartbeats 1200000
namespace PM
open PySem PySem.Spec L2
/-! ### {k: v for x in xs if t} over known things, whose rounds leave the state -/
end PM
set_option Elab.async false
set_option linter.all false
set_option maxRecDepth 100000
set_option maxHeartbeats 1200000
namespace PM
open PySem PySem.Spec L2
/-! ### reckoning runs in fewer words -/
def uns : Nat → List Slot
  | 0 => []
  | n + 1 => .un :: uns n
theorem uns_0 : uns 0 = [] := rfl
theorem uns_s {n : Nat} : uns (n + 1) = .un :: uns n := rfl
theorem uns_e : ∀ n : Nat, List.replicate n Slot.un = uns n
  | 0 => rfl
  | n + 1 => by rw [List.replicate_succ, uns_e n]; rfl
section
variable {a b c d e : D} {n : Nat}
theorem entry0 : entry [] n = uns n := uns_e n
theorem entry1 : entry [a] n = .sh a :: uns n := congrArg (fun z => Slot.sh a :: z) (uns_e n)
theorem entry2 : entry [a, b] n = .sh a :: .sh b :: uns n := congrArg (fun z => Slot.sh a :: .sh b :: z) (uns_e n)
theorem entry3 : entry [a, b, c] n = .sh a :: .sh b :: .sh c :: uns n := congrArg (fun z => Slot.sh a :: .sh b :: .sh c :: z) (uns_e n)
theorem entry4 : entry [a, b, c, d] n = .sh a :: .sh b :: .sh c :: .sh d :: uns n := congrArg (fun z => Slot.sh a :: .sh b :: .sh c :: .sh d :: z) (uns_e n)
theorem entry5 : entry [a, b, c, d, e] n = .sh a :: .sh b :: .sh c :: .sh d :: .sh e :: uns n := congrArg (fun z => Slot.sh a :: .sh b :: .sh c :: .sh d :: .sh e :: z) (uns_e n)
end
section
variable {own : List Nat} {g : D → State → Option State} {t : M Bool} {e ek ev : M RV} {env : List Slot} {store : List Cell} {K : Out RV → Prop}
/-- a comprehension with a test over known things, that leaves the state -/
theorem at_coF {α : Type} (φ k : α → D) (f : α → Bool) {xs : List α} (hw : wipeE (wipeE env own) own = wipeE env own) (hl : xs.length ≤ lim)
    (hs : ∀ x ∈ xs, ∀ Z : Out (Option D) → Prop, (∀ env3, wipeE env3 own = wipeE env own → Z (.ok (if f x then some (k x) else none) ⟨env3, store⟩)) → At (kCs t e (g (φ x) ⟨wipeE env own, store⟩)) Z)
    (hk : At (.ok (.ow (.ls ((xs.filter f).map k))) ⟨wipeE env own, store⟩) K) : At (kCo own g t e (xs.map φ) ⟨env, store⟩) K := by
  have hm : ∀ y x, y ∈ xs.take x → y ∈ xs := fun y x h => List.mem_of_mem_take h
  refine at_co (wipeE env own) (fun j s acc => s = store ∧ acc = ((xs.take j).filter f).map k) rfl hw ⟨rfl, by simp⟩ (by simpa using hl) (fun j s acc d hd hJ Z h1 h2 => ?_) (fun s' ys hJ => ?_)
  · obtain ⟨rfl, rfl⟩ := hJ
    rw [List.getElem?_map] at hd
    obtain ⟨x, hx, rfl⟩ := Option.map_eq_some_iff.mp hd
    refine hs x (List.mem_of_getElem? hx) Z fun env3 hw3 => ?_
    have et : xs.take (j + 1) = xs.take j ++ [x] := by
      rw [List.take_succ, hx]
      rfl
    cases hf : f x with
    | true =>
      rw [if_pos rfl]
      exact h1 (k x) env3 _ hw3 ⟨rfl, by rw [et, List.filter_append, List.map_append, List.filter_cons, hf]; rfl⟩
    | false =>
      rw [if_neg (by simp)]
      exact h2 env3 _ hw3 ⟨rfl, by rw [et, List.filter_append, List.map_append, List.filter_cons, hf]; simp⟩
  · obtain ⟨rfl, rfl⟩ := hJ
    rw [List.length_map, List.take_length]
    exact hk
/-- a comprehension without a test over known things, that leaves the state -/
theorem at_coM {α : Type} (φ k : α → D) {xs : List α} (hw : wipeE (wipeE env own) own = wipeE env own) (hl : xs.length ≤ lim)
    (hs : ∀ x ∈ xs, ∀ Z : Out (Option D) → Prop, (∀ env3, wipeE env3 own = wipeE env own → Z (.ok (some (k x)) ⟨env3, store⟩)) → At (kCs t e (g (φ x) ⟨wipeE env own, store⟩)) Z)
    (hk : At (.ok (.ow (.ls (xs.map k))) ⟨wipeE env own, store⟩) K) : At (kCo own g t e (xs.map φ) ⟨env, store⟩) K := by
  refine at_coF φ k (fun _ => true) hw hl (fun x hx Z h => hs x hx Z fun env3 hw3 => h env3 hw3) ?_
  rw [List.filter_eq_self.mpr fun _ _ => rfl]
  exact hk
end
/-! dict comprehensions -/
def kDeO4 (x y : D) (st : State) : Out (Option (Key × D)) := match asKey x with
  | some k => .ok (some (k, y)) st
  | none => .stuck
def kDeO3 (x : D) (r : RV) (st : State) : Out (Option (Key × D)) := (RV.frz r st).bd (kDeO4 x)
def kDeO2 (ev : M RV) (x : D) (st : State) : Out (Option (Key × D)) := (ev st).bd (kDeO3 x)
def kDeO1 (ev : M RV) (r : RV) (st : State) : Out (Option (Key × D)) := (RV.frz r st).bd (kDeO2 ev)
def kDeO (ek ev : M RV) (k : Bool) (st : State) : Out (Option (Key × D)) := if k then (ek st).bd (kDeO1 ev) else .ok none st
def kDsO (t : M Bool) (ek ev : M RV) (o : Option State) : Out (Option (Key × D)) := match o with
  | some st1 => (t st1).bd (kDeO ek ev)
  | none => .stuck
section
variable {st : State} {own : List Nat} {g : D → State → Option State} {t : M Bool} {e ek ev : M RV} {env : List Slot} {store : List Cell} {K : Out RV → Prop} {x y : D} {r : RV}
@[simp] theorem kDeO4_s {z : Str} : kDeO4 (.str z) y st = .ok (some (.inr z, y)) st := rfl
@[simp] theorem kDeO4_i {z : Int} : kDeO4 (.int z) y st = .ok (some (.inl z, y)) st := rfl
@[simp] theorem kDeO3_e : kDeO3 x r st = (RV.frz r st).bd (kDeO4 x) := rfl
@[simp] theorem kDeO2_e : kDeO2 ev x st = (ev st).bd (kDeO3 x) := rfl
@[simp] theorem kDeO1_e : kDeO1 ev r st = (RV.frz r st).bd (kDeO2 ev) := rfl
@[simp] theorem kDeO_t : kDeO ek ev true st = (ek st).bd (kDeO1 ev) := rfl
@[simp] theorem kDeO_f : kDeO ek ev false st = .ok none st := rfl
@[simp] theorem kDsO_s : kDsO t ek ev (some st) = (t st).bd (kDeO ek ev) := rfl
end
/-! mutations, as they are reckoned -/
section
variable {st : State} {f : List D → List D → Option (D × List D)} {h : Cell → Option (D × Cell)} {i n : Nat} {ds es ds' : List D} {d k : D} {c c' : Cell} {kvs : List (Key × D)} {C f' : Str} {fs : List (Str × D)} {Cs : List Str}
def muR (i : Nat) (st : State) : Option (D × List D) → Out RV
  | some p => .ok (.sh p.1) { st with env := st.env.set i (.ow (.ls p.2)) }
  | none => .stuck
def muL (f : List D → List D → Option (D × List D)) (i : Nat) (es : List D) (st : State) : Option Slot → Out RV
  | some (.ow (.ls ds)) => muR i st (f ds es)
  | _ => .stuck
@[simp] theorem muR_e : muR i st (some (d, ds')) = .ok (.sh d) { st with env := st.env.set i (.ow (.ls ds')) } := rfl
@[simp] theorem muL_e : muL f i es st (some (.ow (.ls ds))) = muR i st (f ds es) := rfl
@[simp] theorem mu_loE : kMu3 f (.lo i) es st = muL f i es st st.env[i]? := by
  cases e : st.env[i]? with
  | none => simp only [kMu3, upC, e]; rfl
  | some s => cases s with
    | un => simp only [kMu3, upC, e]; rfl
    | sh d => simp only [kMu3, upC, e]; rfl
    | ow c => cases c with
      | ls ds => cases q : f ds es <;> (simp only [kMu3, upC, e, lsC, q, muL, muR]; rfl)
      | dead => simp only [kMu3, upC, e, lsC]; rfl
      | dc _ => simp only [kMu3, upC, e, lsC]; rfl
      | dt _ => simp only [kMu3, upC, e, lsC]; rfl
      | ins _ _ => simp only [kMu3, upC, e, lsC]; rfl
      | tab _ _ => simp only [kMu3, upC, e, lsC]; rfl
def muR2 (n : Nat) (st : State) : Option (D × List D) → Out RV
  | some p => .ok (.sh p.1) { st with store := st.store.set n (.ls p.2) }
  | none => .stuck
def muS (f : List D → List D → Option (D × List D)) (n : Nat) (es : List D) (st : State) : Option Cell → Out RV
  | some (.ls ds) => muR2 n st (f ds es)
  | _ => .stuck
@[simp] theorem muR2_e : muR2 n st (some (d, ds')) = .ok (.sh d) { st with store := st.store.set n (.ls ds') } := rfl
@[simp] theorem muS_e : muS f n es st (some (.ls ds)) = muR2 n st (f ds es) := rfl
@[simp] theorem mu_obE : kMu3 f (.sh (.obj n)) es st = muS f n es st st.store[n]? := by
  cases e : st.store[n]? with
  | none => simp only [kMu3, upC, e]; rfl
  | some c => cases c with
    | ls ds => cases q : f ds es <;> (simp only [kMu3, upC, e, lsC, q, muS, muR2]; rfl)
    | dead => simp only [kMu3, upC, e, lsC]; rfl
    | dc _ => simp only [kMu3, upC, e, lsC]; rfl
    | dt _ => simp only [kMu3, upC, e, lsC]; rfl
    | ins _ _ => simp only [kMu3, upC, e, lsC]; rfl
    | tab _ _ => simp only [kMu3, upC, e, lsC]; rfl
@[simp] theorem fPop_l : fPop (ds ++ [d]) [] = some (d, ds) := by
  show ((ds ++ [d]).getLast?).map _ = _
  simp
@[simp] theorem fRev_e : fRev ds [] = some (.non, ds.reverse) := rfl
def upL2 (i : Nat) (st : State) : Option (D × Cell) → Option (D × State)
  | some p => some (p.1, { st with env := st.env.set i (.ow p.2) })
  | none => none
def upL (h : Cell → Option (D × Cell)) (i : Nat) (st : State) : Option Slot → Option (D × State)
  | some (.ow c) => upL2 i st (h c)
  | _ => none
@[simp] theorem upL2_e : upL2 i st (some (d, c)) = some (d, { st with env := st.env.set i (.ow c) }) := rfl
@[simp] theorem upL_e : upL h i st (some (.ow c)) = upL2 i st (h c) := rfl
@[simp] theorem up_loE : upC h (.lo i) st = upL h i st st.env[i]? := by
  cases e : st.env[i]? with
  | none => simp only [upC, e]; rfl
  | some s => cases s with
    | un => simp only [upC, e]; rfl
    | sh d => simp only [upC, e]; rfl
    | ow c => cases q : h c <;> (simp only [upC, e, q, upL, upL2]; rfl)
def upS2 (n : Nat) (st : State) : Option (D × Cell) → Option (D × State)
  | some p => some (p.1, { st with store := st.store.set n p.2 })
  | none => none
def upS (h : Cell → Option (D × Cell)) (n : Nat) (st : State) : Option Cell → Option (D × State)
  | some c => upS2 n st (h c)
  | none => none
@[simp] theorem upS2_e : upS2 n st (some (d, c)) = some (d, { st with store := st.store.set n c }) := rfl
@[simp] theorem upS_e : upS h n st (some c) = upS2 n st (h c) := rfl
@[simp] theorem up_obE : upC h (.sh (.obj n)) st = upS h n st st.store[n]? := by
  cases e : st.store[n]? with
  | none => simp only [upC, e]; rfl
  | some c => cases q : h c <;> (simp only [upC, e, q, upS, upS2]; rfl)
@[simp] theorem gT_2 {r : List D → State → Option State} {a b : D} : gT 2 r (.tup [a, b]) st = r [a, b] st := rfl
@[simp] theorem gT_3 {r : List D → State → Option State} {a b c : D} : gT 3 r (.tup [a, b, c]) st = r [a, b, c] st := rfl
@[simp] theorem gT_4 {r : List D → State → Option State} {a b c e : D} : gT 4 r (.tup [a, b, c, e]) st = r [a, b, c, e] st := rfl
@[simp] theorem gTL_2 {r : List D → State → Option State} {a b : D} : gTL 2 r (.lst [a, b]) st = r [a, b] st := rfl
@[simp] theorem gTL_3 {r : List D → State → Option State} {a b c : D} : gTL 3 r (.lst [a, b, c]) st = r [a, b, c] st := rfl
end
end PM
set_option Elab.async false
set_option linter.all false
set_option maxRecDepth 100000
set_option maxHeartbeats 1200000
namespace PM
open PySem PySem.Spec L2
/-! ### list(range(n)) -/
end PM
set_option Elab.async false
set_option linter.all false
set_option maxRecDepth 100000
set_option maxHeartbeats 1200000
namespace PM
open PySem PySem.Spec L2
open PyProof.Rows (StrsAre sortedHeap)
open PySem.W (dataLe)
open PyProof.Rows
/-! ### sorted(d, reverse=True) of a dict of texts -/
end PM
set_option Elab.async false
set_option linter.all false
set_option maxRecDepth 100000
set_option maxHeartbeats 1200000
namespace PM
open PySem PySem.Spec L2
/-! ### == and != of instances by their own __eq__, with anything -/
theorem nf_type {K : PySem.W.Frag} {C : Addr} {T : String} (h : T ∈ ["NoneType", "bool", "int", "str", "tuple", "list", "dict"]) : PySem.W.notFirst K C (.type T) = true := by
  have key : ∃ l : List String, PySem.fastBuiltinMro T = some (l.map Value.type) := by
    simp only [List.mem_cons, List.not_mem_nil, or_false] at h
    rcases h with rfl | rfl | rfl | rfl | rfl | rfl | rfl
    · exact ⟨["NoneType", "object"], by kernel_rfl⟩
    · exact ⟨["bool", "int", "object"], by kernel_rfl⟩
    · exact ⟨["int", "object"], by kernel_rfl⟩
    · exact ⟨["str", "object"], by kernel_rfl⟩
    · exact ⟨["tuple", "object"], by kernel_rfl⟩
    · exact ⟨["list", "object"], by kernel_rfl⟩
    · exact ⟨["dict", "object"], by kernel_rfl⟩
  obtain ⟨l, e⟩ := key
  have c : ∀ l : List String, (l.map Value.type).contains (.ref C) = false := fun l => by
    induction l with
    | nil => rfl
    | cons x l ih =>
      rw [List.map_cons, List.contains_cons, ih]
      rfl
  have e2 : PySem.W.subIn K (.type T) (.ref C) = some false := by
    show (PySem.fastBuiltinMro T).map (·.contains (.ref C)) = _
    rw [e, Option.map_some, c]
  unfold PySem.W.notFirst
  rw [e2]
  simp
end PM
namespace PySem.W
open PySem PySem.Calls PyProof.Rows
section
variable {prog : Program} {w : World} {A : Around} {E : Value → Shared → Prop} {s : Shared} {K : Frag} {x C L f : Addr} {h₀ : Heap} {m : Str → Option Value} {ox : Obj} {od : Option Obj} {b tb : Value}
theorem ne_slot (X : K.In s.heap) (I : InstAt s.heap x ox C od) (h2 : mroIn K C (.type "object") = some true) {M : Model} {Q : Unit → Shared → Prop} (hq : Q () s) : wpAny M A (checkBuiltinCall "object.__ne__" ⟨[.ref x, b], []⟩) Q E s := by
  have lk : Looks M s.heap (isInstance (.ref x) (.type "object")) true := I.type.andThen (looks_mroIn X h2)
  have ha := PySem.F.cmpArgs_ne (.ref x) b
  simp only [checkBuiltinCall, PySem.F.cmpKind_ne, PySem.F.cmpSplit_ne]
  refine wpAny_bind (lk.here ?_)
  cases hsig : Manifest.signature? "object.__ne__" with
  | none => exact wpAny_pure hq
  | some sig =>
    simp only [argsOk, hsig] at ha
    have h2 : Bind.checkArgs "object.__ne__" sig ⟨[.ref x, b], []⟩ = pure () := ha
    show wpAny M A (Bind.checkArgs "object.__ne__" sig ⟨[.ref x, b], []⟩) Q E _
    rw [h2]
    exact wpAny_pure hq
theorem ne_K {Q : Value → Shared → Prop} (hu : A.units + 1 < cLine) (F : Fr h₀ L s.heap m) (X₀ : K.In h₀) (I : InstAt s.heap x ox C od) (hb : Looks (model prog w) s.heap (typeOf b) tb) (hn : notFirst K C tb = true)
    (hs : findIn K (.ref C) "__eq__" = some (some (.ref f))) (hf : isFn K (.ref f) = true) (h1 : findIn K (.ref C) "__ne__" = some (some (.builtin "object.__ne__"))) (h2 : mroIn K C (.type "object") = some true)
    (h : wpAny (model prog w) A.in1 (call (.ref f) [.ref x, b]) (fun v s' => ∃ c, v = .bool c ∧ Q (.bool (!c)) s') E s) : wpAny (model prog w) A (richCompare .NotEq (.ref x) b) Q E s := by
  have X := X₀.keeps F.keep
  have bnd := (PySem.F.slot_range_iterator_ne).bind
  have pln := (PySem.F.slot_range_iterator_ne).plain
  have body : wpAny (model prog w) A.in1 (Builtin.«object.__ne__» ⟨[.ref x, b], []⟩) (fun fin s' => ∃ v, fin = .done (.ret v) ∧ ∃ c, v = .bool (!c) ∧ Q (.bool (!c)) s') E s := by
    obtain ⟨hp, g, d, t, os⟩ := s
    unfold Builtin.«object.__ne__»
    repeat (first
      | with_reducible refine wpAny_cRoomFor (A := A.in1) hu ?_
      | (refine wpAny_bind (m := callSpecialIfBound? (.ref x) (Str.ofString "__eq__") [b])
          (ifBound_K X I hs hf (wpAny_mono h (fun r s' hr => by
            obtain ⟨c, rfl, hq⟩ := hr
            exact wpAny_bind (m := truthy (.bool _)) (wpAny_truthy_bool (wpAny_pure ⟨_, rfl, _, rfl, hq⟩))) fun _ _ e => e)))
      | wp_step)
  have one : wpAny (model prog w) A (tryCompare (.ref x) "__ne__" b) (fun r s' => ∃ v, r = some v ∧ Q v s') E s := by
    unfold tryCompare
    have cl : wpAny (model prog w) A (call (.builtin "object.__ne__") [.ref x, b]) (fun v s' => ∃ c, v = .bool (!c) ∧ Q (.bool (!c)) s') E s :=
      wpAny_call (codeAny_call_builtin pln PySem.F.cmpEntry_ne (ne_slot X I h2 (wpAny_mono body (fun fin s' z => by
        obtain ⟨v, rfl, c, rfl, hq⟩ := z
        exact ⟨c, rfl, hq⟩) fun _ _ e => e)))
    have sp : wpAny (model prog w) A (callSpecialIfBound? (.ref x) "__ne__" [b]) (fun r s' => ∃ c, r = some (.bool (!c)) ∧ Q (.bool (!c)) s') E s := by
      simp only [callSpecialIfBound?, bindSpecialIfBound?]
      refine wpAny_holding (wpAny_bind (wpAny_bind (wpAny_bind (I.type.here ((looks_findIn X h1).here ?_)))))
      simp only [bnd]
      refine wpAny_bind (wpAny_askSetting (wpAny_ite ?_))
      have fin : wpAny (model prog w) A (call (.builtin "object.__ne__") ([.ref x] ++ [b]) >>= fun v => pure (some v)) (fun r s' => ∃ c, r = some (.bool (!c)) ∧ Q (.bool (!c)) s') E s := wpAny_bind (wpAny_mono cl (fun v s' h' => by
        obtain ⟨c, rfl, hq⟩ := h'
        exact wpAny_pure ⟨c, rfl, hq⟩) fun _ _ h' => h')
      split
      · exact wpAny_bind (wpAny_pure (wpAny_pure fin))
      · exact wpAny_tryCatch (wpAny_bind (wpAny_pure (wpAny_pure fin)))
    refine wpAny_bind (wpAny_mono sp (fun r s' z => ?_) fun _ _ e => e)
    obtain ⟨c, rfl, hq⟩ := z
    exact wpAny_pure ⟨_, rfl, hq⟩
  unfold richCompare
  simp only [oneThing_ref]
  refine wpAny_holding (wpAny_bind (wpAny_cRoomFor (Nat.lt_of_succ_lt hu) ?_))
  refine wpAny_bind (I.type.here (wpAny_bind (hb.here ?_)))
  split
  · rename_i q
    have e : subIn K tb (.ref C) = some false := by
      rcases Bool.or_eq_true_iff.mp hn with e | e
      · rw [beq_iff_eq.mp e] at q; simp at q
      · exact beq_iff_eq.mp e
    refine wpAny_bind ((looks_subIn X e).here ?_)
    simp only [Bool.false_eq_true, if_false]
    refine wpAny_bind (wpAny_mono one (fun r s' z => ?_) fun _ _ e => e)
    obtain ⟨v, rfl, hq⟩ := z
    exact wpAny_pure hq
  · refine wpAny_bind (wpAny_pure ?_)
    simp only [Bool.false_eq_true, if_false]
    refine wpAny_bind (wpAny_mono one (fun r s' z => ?_) fun _ _ e => e)
    obtain ⟨v, rfl, hq⟩ := z
    exact wpAny_pure hq
end
end PySem.W
namespace PM
open PySem PySem.Spec L2
def okRt (st : State) (C : Str) (y : D) : Bool := match thing st (.sh y) with
  | some (B, _) => decide (B = C)
  | none => (opKind y).isSome
/-- x == y, x != y (neg), x an instance; else by g -/
def mCmpE (neg : Bool) (tab : List (Str × Fn)) (g : D → D → Option Bool) (a b : M RV) : M Bool := a.bor.bind fun r => b.bor.bind fun s st => match thing st r with
  | some (C, _) => (match r, s with
    | .sh x, .sh y => if okRt st C y = true then ((noX (ownC tab C [x, y])).bind fun r => (okB r).bind fun c => M.pure (c != neg)) st else .stuck
    | _, _ => .stuck)
  | none => at2 g r s st
def opOf : Bool → CmpOp
  | true => .NotEq
  | false => .Eq
def OwnEq (X : Cx) (k : Nat) (neg : Bool) (tab : List (Str × Fn)) : Prop := ∀ C F, tab.lookup C = some F → ∃ f, PySem.W.findIn X.K (.ref (He.ga X.K C)) "__eq__" = some (some (.ref f)) ∧ PySem.W.isFn X.K (.ref f) = true ∧ FnC X.prog X.w X.K X.mg X.base k f 2 [] F ∧
  (neg = true → PySem.W.findIn X.K (.ref (He.ga X.K C)) "__ne__" = some (some (.builtin "object.__ne__")) ∧ PySem.W.mroIn X.K (He.ga X.K C) (.type "object") = some true)
def RtV (K : PySem.W.Frag) (H : Hp) (C : Str) (w : V) : Prop := (∃ b d u, w = .ref b ∧ H b = some (.ins (He.ga K C) d u)) ∨ ∃ T, T ∈ ["NoneType", "bool", "int", "str", "tuple", "list", "dict"] ∧ TyX K H w (.type T)
def rdBE (K : PySem.W.Frag) (E : Ent) (tab : List (Str × Fn)) (neg : Bool) (g : D → D → Option Bool) : R2 := fun v w H Q => rdB K E g v w H Q ∨ ∃ σ C F a d1 u1, v = .ref a ∧ H a = some (.ins (He.ga K C) d1 u1) ∧ RtV K H C w ∧ tab.lookup C = some F ∧
  spOf K F [.ref a, w] H (fun v H => ∃ c, v = .bl c ∧ Q (.bl (c != neg)) H) (WE WF σ)
section
variable {X : Cx} {E : Ent} {W : WX} {pos : Pos} {k : Nat} {tab : List (Str × Fn)} {a b : Expr} {ma mb : M RV} {gb : D → D → Option Bool} {neg : Bool}
theorem rd_cmpE {σ : L2.St} {H : Hp} {Q : VK} {q : Bool → Hp → State → List Addr → Hp → Prop} {st : State} {φ : List Addr} {I : Hp} (R : Rp X.K E σ H st φ I) (p : Po X.K E W σ (mCmpE neg tab gb ma mb st) H st φ I q)
    (hk : ∀ r H' st' φ' I', Rp X.K E σ H' st' φ' I' → q r H' st' φ' I' → Q (.bl r) H') : tOp (rdBE X.K E tab neg gb) (rdR X.K E W ma.bor) (rdR X.K E W mb.bor) σ H Q := by
  refine ⟨st, φ, I, R, (Po.bind p).imp fun x H1 st1 φ1 I1 S1 R1 p1 v hv _ => ?_⟩
  refine ⟨st1, φ1, I1, R1, (Po.bind p1).imp fun y H2 st2 φ2 I2 S2 R2 p2 w hw _ => ?_⟩
  cases e : thing st2 x with
  | none =>
    rw [e] at p2
    obtain ⟨x', y', r, ex, ey, e, p3⟩ := Po.at2 p2
    exact .inl ⟨σ, st2, φ2, I2, x', y', r, R2, hv.seen S2 R2 ex, hw.seen Stp.refl R2 ey, e, hk r H2 st2 φ2 I2 R2 (p3 H2 φ2 I2 Stp.refl R2)⟩
  | some t =>
    obtain ⟨C, fs⟩ := t
    rw [e] at p2
    obtain ⟨a1, d1, u1, rfl, k1, _, _⟩ := hv.thing S2 R2 e
    cases x with
    | ow c => exact p2.elim
    | lo i => exact p2.elim
    | sh dx =>
      cases y with
      | ow c => exact p2.elim
      | lo i => exact p2.elim
      | sh dy =>
        simp only at p2
        by_cases hr : okRt st2 C dy = true
        · rw [if_pos hr] at p2
          have rt : RtV X.K H2 C w := by
            unfold okRt at hr
            cases e2 : thing st2 (.sh dy) with
            | some t2 =>
              obtain ⟨B, fs2⟩ := t2
              rw [e2] at hr
              have := of_decide_eq_true hr
              subst this
              obtain ⟨b1, d2, u2, rfl, k2, _, _⟩ := hw.thing Stp.refl R2 e2
              exact .inl ⟨b1, d2, u2, rfl, k2⟩
            | none =>
              rw [e2] at hr
              simp only at hr
              cases e3 : opKind dy with
              | none => rw [e3] at hr; cases hr
              | some T => exact .inr ⟨T, opKind_in e3, opKind_ty R2.ext (hw.seen Stp.refl R2 (show view st2 (.sh dy) = some dy by
                  cases dy <;> first | rfl | (simp [opKind] at e3; done))) e3⟩
          have p3 := Po.noXb p2
          simp only [ownC] at p3
          cases ef : tab.lookup C with
          | none => rw [ef] at p3; exact p3.elim
          | some F =>
            rw [ef] at p3
            refine .inr ⟨σ, C, F, a1, d1, u1, rfl, k1, rt, ef, sp_of R2 (.cons ((show Rv X.K φ1 I1 dx _ from hv).mono S2.pf S2.ii) (.cons hw .nil)) (p3.imp fun r H3 st3 φ3 I3 S3 R3 p4 v hv2 hnn => ?_)⟩
            clear hnn
            cases r with
            | ow c => exact p4.elim
            | lo i => exact p4.elim
            | sh d =>
              cases d <;> try exact p4.elim
              rename_i c
              cases (show Rv X.K φ3 I3 (.bl c) v from hv2)
              exact ⟨c, rfl, hk _ H3 st3 φ3 I3 R3 (p4 H3 φ3 I3 Stp.refl R3)⟩
        · rw [if_neg hr] at p2
          exact p2.elim
theorem run_cA {n : Nat} {f : Addr} {F : Fn} {pins : List (Addr × Obj)} {σ σ' : L2.St} {H : Hp} {s : Shared} {Q : VK} {us : List Value} {vs : List V} (A : Around) (hA : A = X.A ∨ A = X.A.in1) (hF : FnC X.prog X.w X.K X.mg X.base k f n [] F) (hr : Room (k + 2) X.A) (hgd : X.A.guards = some [])
    (I : Inv X pins σ H s) (r : Vals vs us) (hm : us.length = n) (h : spOf X.K F vs H Q (WE WF σ')) : codeAny (model X.prog X.w) A (.call (.ref f) ⟨us, []⟩) (fun r s' => match r with | .ok (.ret u) => EP X pins σ Q u s' | .ok _ => False | .error e => False) s := by
  have h' : spOf X.K F vs H Q (WE WF σ) := h
  have hrA : Room k A := by
    rcases hA with rfl | rfl
    · exact hr.mono (by omega)
    · exact (hr.mono (by omega : k + 1 ≤ k + 2)).in1
  have hgA : A.guards = some [] := by
    rcases hA with rfl | rfl
    · exact hgd
    · rw [in1_guards]; exact hgd
  have e0 : Env0 X.prog X.w X.K X.mg X.base A X.stack s H := by
    rcases hA with rfl | rfl
    · exact I.env0
    · exact I.env0.in1
  have c := hF A X.stack s H us vs Q (WE WF σ) hrA hgA e0 r (by rw [hm]; rfl) h'
  have e1 : us.take n = us := by rw [← hm]; exact List.take_length
  rw [e1] at c
  refine codeAny_mono c fun r s' hq => ?_
  cases r with
  | error e => exact False.elim (passAt (X := X.nox) takesF σ pins H s e s' (I.wish _) hq)
  | ok fl =>
    cases fl with
    | ret u => exact I.after hq
    | next => exact hq.elim
    | brk => exact hq.elim
    | cont => exact hq.elim
theorem run_cmpE (ho : OpB X E (compareOp (opOf neg)) gb) (hw : OwnEq X k neg tab) (hr : Room (k + 2) X.A) (hgd : X.A.guards = some []) {pins : List (Addr × Obj)} {s : Shared} {σ : L2.St} {H : Hp} {x y : V} {v u : Value} {Q : VK}
    (I : Inv X pins σ H s) (rx : RelV x v) (ry : RelV y u) (q : rdBE X.K E tab neg gb x y H Q) : wpAny (model X.prog X.w) X.A (compareOp (opOf neg) v u) (EP X pins σ Q) X.xe s := by
  rcases q with q | ⟨σ', C, F, a1, d1, u1, rfl, k1, rt, ef, sp⟩
  · exact ho pins s σ H x y v u Q I rx ry q
  · cases (show v = Value.ref a1 from rx)
    obtain ⟨f, ff, isf, hF, hne⟩ := hw C F ef
    obtain ⟨ox, od, J⟩ := inst_at I k1
    obtain ⟨m, fr⟩ := I.fr
    have ty : ∃ tb, PySem.W.Looks (model X.prog X.w) s.heap (typeOf u) tb ∧ PySem.W.notFirst X.K (He.ga X.K C) tb = true := by
      rcases rt with ⟨b, d2, u2, rfl, k2⟩ | ⟨T, hT, ty⟩
      · cases (show u = Value.ref b from ry)
        obtain ⟨ox', od', J'⟩ := inst_at I k2
        exact ⟨_, J'.type, by unfold PySem.W.notFirst; rw [beq_self_eq_true]; rfl⟩
      · obtain ⟨P, kx, hP, _⟩ := kit_of I ry ty
        exact ⟨_, kx.ty _ _ I.kIn hP, nf_type hT⟩
    obtain ⟨tb, lk, nf⟩ := ty
    have call : ∀ A, (A = X.A ∨ A = X.A.in1) → wpAny (model X.prog X.w) A (call (.ref f) [.ref a1, u]) (fun v s' => ∃ c, v = .bool c ∧ EP X pins σ Q (.bool (c != neg)) s') (fun _ _ => False) s := fun A hA =>
      wpAny_call (codeAny_mono (run_cA A hA (us := [.ref a1, u]) (vs := [.ref a1, y]) hF hr hgd I (.cons rfl (.cons ry .nil)) rfl sp) fun r s' hq => by
        cases r with
        | error er => exact False.elim hq
        | ok fl =>
          cases fl with
          | ret w =>
            obtain ⟨v, H', I3, rv, c, rfl, q3⟩ := hq
            cases rv
            exact ⟨c, rfl, .bl (c != neg), H', I3, rfl, q3⟩
          | next => exact False.elim hq
          | brk => exact False.elim hq
          | cont => exact False.elim hq)
    cases neg with
    | false =>
      show wpAny (model X.prog X.w) X.A (richCompare .Eq (.ref a1) u) (EP X pins σ Q) X.xe s
      refine PySem.W.cmp_K (op := .Eq) (Nat.lt_of_le_of_lt (Nat.le_add_right _ 1) (hu_of hr)) fr I.ok.mod.kin J lk nf ff isf (wpAny_mono (call X.A (.inl rfl)) (fun w s' z => ?_) fun _ _ x => x.elim)
      obtain ⟨c, rfl, z⟩ := z
      have z' : EP X pins σ Q (.bool c) s' := by simpa using z
      exact z'
    | true =>
      obtain ⟨n1, n2⟩ := hne rfl
      show wpAny (model X.prog X.w) X.A (richCompare .NotEq (.ref a1) u) (EP X pins σ Q) X.xe s
      refine PySem.W.ne_K (hu_of hr) fr I.ok.mod.kin J lk nf ff isf n1 n2 (wpAny_mono (call X.A.in1 (.inr rfl)) (fun w s' z => ?_) fun _ _ x => x.elim)
      obtain ⟨c, rfl, z⟩ := z
      exact ⟨c, rfl, by simpa using z⟩
theorem sr_cmpE (ho : OpB X E (compareOp (opOf neg)) gb) (hw : OwnEq X k neg tab) (hr : Room (k + 2) X.A) (hgd : X.A.guards = some []) (ha : SR X E W a ma) (hb : SR X E W b mb) (hm : behindInMarks (opOf neg) b = false) :
    SR X E W (.Compare a [opOf neg] [b] pos) (mBl (mCmpE neg tab gb ma mb)) := ⟨fun pins s σ H Q I ⟨st, φ, I0, R, p⟩ => wpAny_Compare1 (binT (R := fun x y H2 => rdBE X.K E tab neg gb x y H2 Q) (sr_bor ha) (sr_bor hb) I (rd_cmpE R (Po.bind p) fun r H' st' φ' I' R' h => h.pure R' _ (.bl r) Nw.sh)
  fun v u s2 x y H2 I2 rx ry q => run_cmpE ho hw hr hgd I2 rx ry q) hm⟩
theorem st_cmpE (ho : OpB X E (compareOp (opOf neg)) gb) (hw : OwnEq X k neg tab) (hr : Room (k + 2) X.A) (hgd : X.A.guards = some []) (ha : SR X E W a ma) (hb : SR X E W b mb) (hm : behindInMarks (opOf neg) b = false) :
    ST X E W (.Compare a [opOf neg] [b] pos) (mCmpE neg tab gb ma mb) := ⟨fun pins s σ H Q I ⟨st, φ, I0, R, p⟩ => by
  have h := rd_cmpE (Q := fun v H => ∃ c, v = .bl c ∧ Q c H) R p fun r H' st' φ' I' _ h => ⟨r, rfl, h⟩
  refine wpAny_isTrue_Compare1 (thn ((sr_bor ha).run pins s σ H _ I h) fun v s1 ⟨x, H1, I1, r1, q1⟩ => thn ((sr_bor hb).run pins s1 σ H1 _ I1 q1) fun u s2 ⟨y, H2, I2, r2, q2⟩ =>
    thn (run_cmpE ho hw hr hgd I2 r1 r2 q2) fun c s3 ⟨z, H3, I3, r3, k, e, q3⟩ => ?_) hm
  subst e
  cases r3
  exact wpAny_truthy_bool ⟨H3, I3, q3⟩⟩
end
/-! ### xs[i] = v -/
def putLC (k d : D) : Cell → Option (D × Cell)
  | .ls ds => (match k with
    | .int i => (ixN ds.length i).map fun j => (.non, .ls (ds.set j d))
    | _ => none)
  | _ => none
def mPutL (a k v : M RV) : MS := v.frz.then fun d => (a.bind fun r => M.pure r.bor).then fun r => k.frz.then fun kd st => match upC (putLC kd d) r.bor st with
  | some (_, st') => .nx st'
  | none => .stuck
section
variable {X : Cx} {E : Ent} {W : WX} {pos pos' : Pos} {a b c : Expr} {ma mb mc : M RV}
theorem ss_putL (ho : SR X E W a ma) (hi : SR X E W b mb) (hv : SR X E W c mc) (hs : swapsWithSole [.Subscript a b pos'] c pos.line X.env = pure false := by rfl) (hw : swappedStores [.Subscript a b pos'] c X.env = pure none := by rfl)
    (ha : ∀ v, assign (.Subscript a b pos') X.env v = (do
      let ov ← holding [v] (eval a X.env)
      let iv ← holding [v, ov] (eval b X.env)
      standAt pos'
      holding [v, ov, iv] (setItem ov iv v)
      release [v, ov, iv] []) := by intro _; rfl) :
    SS X E W (.Assign [.Subscript a b pos'] c pos) (mPutL ma mb mc) := PSi (ps_asg (se_frz hv) (pg_sub (sr_bor ho) (se_frz hi) set_list ha) hs hw) fun D σ H ⟨st, φ, I, R, p⟩ => by
  refine ⟨st, φ, I, R, (Ps.then p).imp fun d H1 st1 φ1 I1 S1 R1 p1 v hv => ?_⟩
  refine ⟨st1, φ1, I1, R1, (Ps.then p1).imp fun r H2 st2 φ2 I2 S2 R2 p2 u hu hn => ?_⟩
  refine ⟨st2, φ2, I2, R2, (Ps.then p2).imp fun k H3 st3 φ3 I3 S3 R3 p3 w hw => ?_⟩
  cases e : upC (putLC k d) r.bor st3 with
  | none => rw [e] at p3; exact p3.elim
  | some q =>
    obtain ⟨d', st4⟩ := q
    rw [e] at p3
    have hu2 : Rr X.K E σ H2 st2 φ2 I2 r.bor u := by
      cases r with
      | ow c => exact absurd e (by simp [upC, RV.bor]; cases c <;> simp [Cell.frz])
      | sh d => exact hu
      | lo i => exact hu
    have hr3 : Rr X.K E σ H3 st3 φ3 I3 r.bor u := hu2.step S3 bor_no
    have hd3 := hv.mono (S2.trans S3).pf (S2.trans S3).ii
    obtain ⟨x, cc, c', o, rfl, g1, g2, g3, g4⟩ := R3.up (f := putLC k d) rfl hr3 e
    cases g2 with
    | ins _ _ => cases g3
    | tab _ _ => cases g3
    | dc _ _ => cases g3
    | dt _ _ => cases g3
    | ls z =>
      rename_i ds us
      simp only [putLC] at g3
      cases k <;> try (cases g3; done)
      rename_i i
      simp only at g3
      obtain ⟨j, e1, e2⟩ := Option.map_eq_some_iff.mp g3
      cases e2
      cases (show Rv X.K φ3 I3 (.int i) w from hw)
      obtain ⟨R4, S4⟩ := g4 _ (.ls (z.set j hd3))
      exact ⟨x, us, i, j, rfl, rfl, g1, by rw [← z.len]; exact e1, p3 _ _ _ _ Grow.refl R4⟩
end
/-! ### how these are reckoned -/
section
variable {st st' : State} {a b c : M RV} {C : Str} {fs : List (Str × D)}
def ceG (neg : Bool) (tab : List (Str × Fn)) (g : D → D → Option Bool) (r s : RV) (st : State) : Out Bool := match thing st r with
  | some (C, _) => (match r, s with
    | .sh x, .sh y => if okRt st C y = true then ((noX (ownC tab C [x, y])).bind fun r => (okB r).bind fun c => M.pure (c != neg)) st else .stuck
    | _, _ => .stuck)
  | none => at2 g r s st
theorem r_cmpE {neg : Bool} {tab : List (Str × Fn)} {g : D → D → Option Bool} : mCmpE neg tab g a b st = (a st).bd (kB2 b (ceG neg tab g)) := r_b2
theorem ceG_r {neg c : Bool} {tab : List (Str × Fn)} {g : D → D → Option Bool} {F : Fn} {y : D} (h : tab.lookup C = some F) (hy : okRt st C y = true) (hF : F [.rcd C fs, y] st.store = .ret (.sh (.bl c)) st.store) : ceG neg tab g (.sh (.rcd C fs)) (.sh y) st = .ok (c != neg) st := by
  have e : thing st (.sh (.rcd C fs)) = some (C, fs) := by simp [thing]
  simp only [ceG, e, if_pos hy]
  have e2 : noX (ownC tab C [.rcd C fs, y]) st = .ok (.sh (.bl c)) st := by
    unfold noX
    rw [own_e h, hF]
    rfl
  show M.bind _ _ st = _
  unfold M.bind
  rw [e2]
  rfl
theorem ceG_n {neg : Bool} {tab : List (Str × Fn)} {g : D → D → Option Bool} {r s : RV} (h : thing st r = none) : ceG neg tab g r s st = at2 g r s st := by
  unfold ceG
  rw [h]
def kV4 (d : D) (r : RV) (kd : D) (st : State) : SOut := kU (upC (putLC kd d) r.bor st)
def kV3 (d : D) (r : RV) (s : RV) (st : State) : SOut := (RV.frz s st).th (kV4 d r)
def kV2 (k : M RV) (d : D) (r : RV) (st : State) : SOut := (k st).th (kV3 d r)
def kV1 (a k : M RV) (d : D) (st : State) : SOut := (a st).th (kV2 k d)
def kV0 (a k : M RV) (r : RV) (st : State) : SOut := (RV.frz r st).th (kV1 a k)
theorem kV4_e {d kd : D} {r : RV} : kV4 d r kd st = kU (upC (putLC kd d) r.bor st) := rfl
theorem kV3_e {d : D} {r s : RV} : kV3 d r s st = (RV.frz s st).th (kV4 d r) := rfl
theorem kV2_e {d : D} {r : RV} : kV2 b d r st = (b st).th (kV3 d r) := rfl
theorem kV1_e {d : D} : kV1 a b d st = (a st).th (kV2 b d) := rfl
theorem kV0_e {r : RV} : kV0 a b r st = (RV.frz r st).th (kV1 a b) := rfl
theorem r_putL : mPutL a b c st = (c st).th (kV0 a b) := by
  have e3 : ∀ (d : D) (r : RV) (st : State), (M.frz b).then (fun kd st => match upC (putLC kd d) r.bor.bor st with
      | some (_, st') => SOut.nx st'
      | none => .stuck) st = kV2 b d r st := fun d r st => by
    have eb : r.bor.bor = r.bor := by cases r <;> rfl
    rw [eb]
    have e4 : ∀ (s : RV) (st : State), (RV.frz s st).th (fun kd st => match upC (putLC kd d) r.bor st with
      | some (_, st') => SOut.nx st'
      | none => .stuck) = kV3 d r s st := fun s st => by
      show _ = (RV.frz s st).th (kV4 d r)
      congr 1
    show ((b st).bd RV.frz).th _ = (b st).th (kV3 d r)
    cases b st with
    | ok s st1 => exact e4 s st1
    | exc c st1 => rfl
    | stuck => rfl
  have e2 : ∀ (d : D) (st : State), (M.bind a fun r => M.pure r.bor).then (fun r => (M.frz b).then (fun kd st => match upC (putLC kd d) r.bor st with
      | some (_, st') => SOut.nx st'
      | none => .stuck)) st = kV1 a b d st := fun d st => by
    show ((a st).bd fun r st => .ok r.bor st).th _ = (a st).th (kV2 b d)
    cases a st with
    | ok r st1 => exact e3 d r st1
    | exc c st1 => rfl
    | stuck => rfl
  have e5 : ∀ (r : RV) (st : State), (RV.frz r st).th (fun d => (M.bind a fun r => M.pure r.bor).then (fun r => (M.frz b).then (fun kd st => match upC (putLC kd d) r.bor st with
      | some (_, st') => SOut.nx st'
      | none => .stuck))) = kV0 a b r st := fun r st => by
    show _ = (RV.frz r st).th (kV1 a b)
    congr 1
    funext d st2
    exact e2 d st2
  show ((c st).bd RV.frz).th _ = (c st).th (kV0 a b)
  cases c st with
  | ok r st1 => exact e5 r st1
  | exc c st1 => rfl
  | stuck => rfl
end
end PM
set_option Elab.async false
set_option linter.all false
set_option maxRecDepth 100000
set_option maxHeartbeats 1200000
namespace PM
open PySem PySem.Spec L2
/-! ### comprehensions over what may stand in the store -/
inductive Src where
  | fix (ds : List D) | cell (n : Nat)
def Src.at (s : Src) (st : State) : Option (List D) := match s with
  | .fix ds => some ds
  | .cell n => (match st.store[n]? with
    | some (.ls ds) => some ds
    | _ => none)
def mCompS (own : List Nat) (src : Src) (g : D → State → Option State) (t : M Bool) (e : M RV) : Nat → Nat → List D → M (List D)
  | 0, _, _ => fun _ => .stuck
  | f + 1, i, acc => fun st => match src.at st with
    | none => .stuck
    | some ds => match ds[i]? with
      | none => .ok acc st
      | some d => match g d (st.wipe own) with
        | none => .stuck
        | some st1 => match t st1 with
          | .ok true st2 => match e.frz st2 with
            | .ok x st3 => if acc.length < lim then mCompS own src g t e f (i + 1) (acc ++ [x]) (st3.wipe own) else .stuck
            | _ => .stuck
          | .ok false st2 => mCompS own src g t e f (i + 1) acc (st2.wipe own)
          | _ => .stuck
def WalkS (K : PySem.W.Frag) (E : Ent) (J : It) (src : Src) (φ0 : List Addr) (I0 : Hp) : Prop := ∀ σ H st φ I, Rp K E σ H st φ I → Grow φ0 I0 φ I → ∀ (i : Nat) (ds : List D), src.at st = some ds →
  (∀ d, ds[i]? = some d → J.go i H ∧ ∀ x H', J.yld i H x H' → ∃ I', Rp K E σ H' st φ I' ∧ Stp σ H st φ I H' st φ I' ∧ Rv K φ I' d x) ∧ (ds.length ≤ i → J.stop i H)
theorem Walk.s {K : PySem.W.Frag} {E : Ent} {J : It} {ds : List D} {φ0 : List Addr} {I0 : Hp} (h : Walk K E J ds φ0 I0) : WalkS K E J (.fix ds) φ0 I0 := fun σ H st φ I R g i ds' e => by
  cases e
  exact h σ H st φ I R g i
theorem walk_cell {K : PySem.W.Frag} {E : Ent} {φ : List Addr} {I : Hp} {n : Nat} {a : Addr} (h : φ[n]? = some a) : WalkS K E (Itl K a) (.cell n) φ I := fun σ H st φ' I' R g i ds e => by
  have hn : φ'[n]? = some a := by
    obtain ⟨t, rfl⟩ := g.pf
    have := (List.getElem?_eq_some_iff.mp h).1
    rw [List.getElem?_append_left this]
    exact h
  have hc : st.store[n]? = some (.ls ds) := by
    simp only [Src.at] at e
    split at e
    · cases e; assumption
    · cases e
  rcases R.cells n _ a hc hn with z | ⟨o, g1, g2, g3⟩
  · cases z
  · cases g3 with
    | ls r =>
      rename_i vs
      have hs : SqL K H a vs := .inl (.inl g1)
      refine ⟨fun d e => ?_, fun hi => ⟨vs, hs, by rw [← r.len]; exact hi⟩⟩
      obtain ⟨v, e1, e2⟩ := r.get e
      refine ⟨⟨vs, v, hs, e1⟩, fun x H' ⟨e3, e4⟩ => ?_⟩
      subst e3
      have e5 := e4 vs hs
      rw [e1] at e5
      cases e5
      exact ⟨I', R, Stp.refl, e2⟩
section
variable {X : Cx} {E : Ent} {W : WX} {pos : Pos}
/-- the run of a comprehension, where its items are at hand -/
theorem rd_compS {J : It} {src : Src} {g : D → State → Option State} {t : M Bool} {e : M RV} {own ts : List Nat} {σ : L2.St} {H1 : Hp} {st1 : State} {φ1 : List Addr} {I1 : Hp} {Q : VK} (hts : ∀ i ∈ ts, i ∈ own) (R1 : Rp X.K E σ H1 st1 φ1 I1) (hJ : WalkS X.K E J src φ1 I1)
    (p : ∃ xs st', mCompS own src g t e 1000 0 [] (st1.wipe own) = .ok xs st' ∧ ∀ v H' φ' I', Stp σ H1 st1 φ1 I1 H' st' φ' I' → Rp X.K E σ H' st' φ' I' → Rr X.K E σ H' st' φ' I' (.ow (.ls xs)) v → (∀ a, v = .ref a → H1 a = none) → Q v H') :
    ∀ D, H1 D = none → ∃ Wv : Nat → Nat → Hp → Prop, (∃ m, Wv 0 m (upd H1 D (.lst []))) ∧ ∀ i m H, Wv i m H →
      (J.stop i H ∧ Q (.ref D) H) ∨ (J.go i H ∧ ∃ Nx : Hp → Prop, (∀ H', Nx H' → ∃ m', m' < m ∧ Wv (i + 1) m' H') ∧ ∀ x H', J.yld i H x H' → rdG X.K E ts g x (L2.wipe σ own) H' fun σ2 H2 => L2.wipe σ2 own = L2.wipe σ own ∧ rdT X.K E WF t σ2 H2 fun b H3 =>
        if b = true then rdE X.K E WF e.frz σ2 H3 fun y H4 => ∃ acc, H4 D = some (.lst acc) ∧ acc.length < sizeLine ∧ Nx (upd H4 D (.lst (acc ++ [y]))) else Nx H3) := by
  intro Da hDa
  obtain ⟨xs, st', e0, fin⟩ := p
  -- the word: what is left to be done gives the same end
  let Wd : Nat → Nat → Hp → Prop := fun i m H => ∃ (st : State) (φ : List Addr) (I : Hp) (acc : List PM.D), Rp X.K E (L2.wipe σ own) H (st.wipe own) φ I ∧ Bst σ H1 st1 φ1 I1 H φ I ∧ (∀ j a, Owns (st.wipe own).env (L2.wipe σ own) j a → Owns st1.env σ j a) ∧ CellAt X.K φ I H Da (.ls acc) ∧ Da ∉ φ ∧ (∀ j, ¬ Owns (st.wipe own).env (L2.wipe σ own) j Da) ∧
    mCompS own src g t e m i acc (st.wipe own) = .ok xs st'
  refine ⟨fun i m H => Wd i m H, ⟨1000, ?_⟩, ?_⟩
  · obtain ⟨R2, S2⟩ := R1.laidO hDa (.lst [])
    obtain ⟨f1, f2, f3, f4⟩ := R1.fresh hDa
    exact ⟨st1, φ1, I1, [], R2.wipe, S2.bst, fun j a h => wipe_owns h, ⟨_, upd_same, f3, .ls .nil⟩, f2, fun j h => f4 j (wipe_owns h), e0⟩
  · rintro i m H ⟨st, φ, I, acc, R, B, ho, cD, nD, oD, e1⟩
    cases m with
    | zero => cases e1
    | succ m =>
    unfold mCompS at e1
    cases es : src.at (st.wipe own) with
    | none => rw [es] at e1; cases e1
    | some ds =>
    rw [es] at e1
    simp only at e1
    obtain ⟨w1, w2⟩ := hJ _ H _ φ I R ⟨B.pf, B.ii⟩ i ds es
    by_cases hi : i < ds.length
    · refine .inr ?_
      rw [List.getElem?_eq_getElem hi] at e1
      simp only at e1
      obtain ⟨go, yld⟩ := w1 ds[i] (List.getElem?_eq_getElem hi)
      refine ⟨go, Wd (i + 1) m, fun H' h => ⟨m, by omega, h⟩, fun v H' hy => ?_⟩
      obtain ⟨I3, R3, S3, hv⟩ := yld v H' hy
      have ww : (st.wipe own).wipe own = st.wipe own := by
        unfold State.wipe
        congr 1
        apply List.ext_getElem?
        intro k
        cases q : (wipeE (wipeE st.env own) own)[k]? with
        | none =>
          have := List.getElem?_eq_none_iff.mp q
          rw [wipeE_len] at this
          exact (List.getElem?_eq_none this).symm
        | some s =>
          by_cases hk : k ∈ own
          · have aux : ∀ (τ : List Slot) (vs : List Nat) (s : Slot), k ∈ vs → (wipeE τ vs)[k]? = some s → s = .un := fun τ vs s hv hq => (wipeE_some hq).elim id fun z => absurd hv z.2
            have hk2 : k < (wipeE st.env own).length := by
              have := (List.getElem?_eq_some_iff.mp q).1
              rwa [wipeE_len] at this
            have e5 := aux _ _ _ hk q
            subst e5
            have e6 := List.getElem?_eq_getElem hk2
            rw [e6, aux _ _ _ hk e6]
          · rcases wipeE_some q with z | z
            · subst z
              have aux : ∀ (τ : List Slot) (vs : List Nat), k ∉ vs → (wipeE τ vs)[k]? = τ[k]? := by
                intro τ vs
                induction vs with
                | nil => intro _; rfl
                | cons v vs ih =>
                  intro h
                  simp only [List.mem_cons, not_or] at h
                  unfold wipeE
                  rw [List.getElem?_set_ne (fun e => h.1 e.symm)]
                  exact ih h.2
              rw [aux _ _ hk] at q
              exact q.symm
            · exact z.1.symm
      rw [ww] at e1
      cases eg : g ds[i] (st.wipe own) with
      | none => rw [eg] at e1; cases e1
      | some sg =>
        rw [eg] at e1
        simp only at e1
        refine ⟨st.wipe own, φ, I3, ds[i], sg, R3, hv, eg, fun σ2 O2 R4 => ⟨?_, ?_⟩⟩
        · have q := wipe_ext (σ := L2.wipe σ own) (σ' := σ2) (vs := own) (fun k hk => O2.same k fun z => hk (hts k z)) O2.len
          rw [q]
          refine wipe_ext (fun k hk => wipe_out hk) (wipe_len _ _)
        · have B3 := B.trans (fun j a h => ⟨j, ho j a h⟩) S3.bst
          obtain ⟨cD3, nD3⟩ := own_keep cD nD oD S3.bst
          have oD4 : ∀ j, ¬ Owns sg.env σ2 j Da := fun j h => oD j (O2.ow j Da h)
          have ho4 : ∀ j a, Owns sg.env σ2 j a → Owns st1.env σ j a := fun j a h => ho j a (O2.ow j a h)
          have wσ : L2.wipe σ2 own = L2.wipe σ own := by
            rw [wipe_ext (σ := L2.wipe σ own) (σ' := σ2) (vs := own) (fun k hk => O2.same k fun z => hk (hts k z)) O2.len]
            exact wipe_ext (fun k hk => wipe_out hk) (wipe_len _ _)
          refine ⟨sg, φ, I3, R4, ?_⟩
          cases et : t sg with
          | stuck => rw [et] at e1; cases e1
          | exc c s5 => rw [et] at e1; cases e1
          | ok b s5 =>
            rw [et] at e1
            intro H5 φ5 I5 S5 R5
            have B5 := B3.trans (st1 := sg) (σ1 := σ2) (fun j a h => ⟨j, ho4 j a h⟩) S5.bst
            obtain ⟨cD5, nD5⟩ := own_keep cD3 nD3 oD4 S5.bst
            have ho5 : ∀ j a, Owns s5.env σ2 j a → Owns st1.env σ j a := fun j a h => ho4 j a (S5.ow j a h)
            have oD5 : ∀ j, ¬ Owns s5.env σ2 j Da := fun j h => oD4 j (S5.ow j Da h)
            cases b with
            | false =>
              refine ⟨s5, φ5, I5, acc, ?_, B5, fun j a h => ?_, cD5, nD5, fun j h => ?_, e1⟩
              · have := R5.wipe (own := own)
                rwa [wσ] at this
              · rw [← wσ] at h; exact ho5 j a (wipe_owns h)
              · rw [← wσ] at h; exact oD5 j (wipe_owns h)
            | true =>
              simp only at e1
              refine ⟨s5, φ5, I5, R5, ?_⟩
              cases ee : e.frz s5 with
              | stuck => rw [ee] at e1; cases e1
              | exc c s6 => rw [ee] at e1; cases e1
              | ok x s6 =>
                rw [ee] at e1
                simp only at e1
                by_cases hz : acc.length < lim
                · rw [if_pos hz] at e1
                  intro H6 φ6 I6 S6 R6 y hy
                  have B6 := B5.trans (st1 := s5) (σ1 := σ2) (fun j a h => ⟨j, ho5 j a h⟩) S6.bst
                  obtain ⟨⟨o6, g1, g2, g3⟩, nD6⟩ := own_keep cD5 nD5 oD5 S6.bst
                  cases g3 with
                  | ls g3 =>
                    rename_i vs6
                    refine ⟨vs6, g1, by rw [← g3.len]; exact Nat.lt_trans hz lim_lt, ?_⟩
                    have ho6 : ∀ j a, Owns s6.env σ2 j a → Owns st1.env σ j a := fun j a h => ho5 j a (S6.ow j a h)
                    have oD6 : ∀ j, ¬ Owns s6.env σ2 j Da := fun j h => oD5 j (S6.ow j Da h)
                    have eD : E.H0 Da = none := (R1.fresh hDa).1
                    have U : ∀ b, b ≠ Da → upd H6 Da (.lst (vs6 ++ [y])) b = H6 b := fun b hb => upd_ne hb
                    have R7 : Rp X.K E σ2 (upd H6 Da (.lst (vs6 ++ [y]))) s6 φ6 I6 := by
                      refine ⟨fun b u q => ?_, fun b u q n => ?_, fun b q => ?_, R6.inew, R6.iold, R6.pre, R6.fl, R6.pnew, R6.nd, R6.len, fun j c2 b q1 q2 => ?_, fun b q => ?_, R6.elen, R6.sh, fun j c2 q => ?_, R6.one⟩
                      · rw [U b (fun z => by rw [z, g2] at q; cases q)]; exact R6.ext b u q
                      · rw [U b (fun z => by rw [z, eD] at q; cases q)]; exact R6.keep b u q n
                      · by_cases hb : b = Da
                        · rw [hb, upd_same]; simp
                        · rw [U b hb]; exact R6.there b q
                      · rcases R6.cells j c2 b q1 q2 with z | ⟨u, z1, z2, z3⟩
                        · exact .inl z
                        · exact .inr ⟨u, by rw [U b (fun z => nD6 (z ▸ List.mem_of_getElem? q2))]; exact z1, z2, z3⟩
                      · rw [U b (fun z => nD6 (z ▸ q))]; exact R6.pin b q
                      · obtain ⟨b, z1, ⟨u, z2, z3, z4⟩, z5, z6⟩ := R6.ow j c2 q
                        exact ⟨b, z1, ⟨u, by rw [U b (fun z => oD6 j ⟨c2, q, z ▸ z1⟩)]; exact z2, z3, z4⟩, z5, z6⟩
                    refine ⟨s6, φ6, I6, acc ++ [x], ?_, ?_, fun j a h => ?_, ⟨_, upd_same, g2, .ls (g3.append (.cons hy .nil))⟩, nD6, fun j h => ?_, e1⟩
                    · have := R7.wipe (own := own)
                      rwa [wσ] at this
                    · have hn1 : ∀ b, H1 b ≠ none → b ≠ Da := fun b q z => by rw [z] at q; exact q hDa
                      refine ⟨B6.pf, B6.nf, B6.ii, fun b u q n no => ?_, fun b q => ?_, B6.inf⟩
                      · rw [U b (hn1 b (by rw [q]; simp))]; exact B6.fr b u q n no
                      · rw [U b (hn1 b q)]; exact B6.there b q
                    · rw [← wσ] at h; exact ho6 j a (wipe_owns h)
                    · rw [← wσ] at h; exact oD6 j (wipe_owns h)
                · rw [if_neg hz] at e1
                  cases e1
    · refine .inl ⟨w2 (by omega), ?_⟩
      rw [List.getElem?_eq_none (by omega)] at e1
      cases e1
      refine fin _ H φ I ⟨B.pf, B.nf, B.ii, B.fr, B.there, B.inf, fun j a h => ?_⟩ R.unwipe ⟨Da, rfl, cD, nD, (R1.fresh hDa).1, fun j h => ?_⟩ fun a h => by cases h; exact hDa
      · refine ho j a ?_
        obtain ⟨c, h1, h2⟩ := h
        rcases wipeE_some (show (wipeE st.env own)[j]? = _ from h1) with z | ⟨z1, z2⟩
        · cases z
        · exact ⟨c, h1, by rw [wipe_out z2]; exact h2⟩
      · refine oD j ?_
        obtain ⟨c, h1, h2⟩ := h
        rcases wipeE_some (show (wipeE st.env own)[j]? = _ from h1) with z | ⟨z1, z2⟩
        · cases z
        · exact ⟨c, h1, by rw [wipe_out z2]; exact h2⟩
def srcOf : RV → Option Src
  | .sh (.obj n) => some (.cell n)
  | .sh d => (asSeq d).map Src.fix
  | _ => none
/-- [e for g in a if t], a a thing of the store, or data -/
def mCompO (own : List Nat) (a : M RV) (g : D → State → Option State) (t : M Bool) (e : M RV) : M RV := a.bind fun r st => match srcOf r with
  | none => .stuck
  | some src => match src.at st with
    | none => .stuck
    | some _ => match mCompS own src g t e 1000 0 [] (st.wipe own) with
      | .ok xs st' => .ok (.ow (.ls xs)) st'
      | _ => .stuck
def rdIS (K : PySem.W.Frag) (E : Ent) (W : WX) (m : M RV) : TI := fun σ H R => ∃ st φ I, Rp K E σ H st φ I ∧ Po K E W σ (m st) H st φ I fun r H' st' φ' I' => ∃ src ds, srcOf r = some src ∧ src.at st' = some ds ∧ ∀ J, WalkS K E J src φ' I' → R J H'
theorem si_src {tg a : Expr} {ma : M RV} (h : SR X E W a ma) : PI X tg a (rdIS X.K E W ma) := ⟨fun pins s σ H R I0 ⟨st, φ, I, Rr, p⟩ => by
  cases e0 : ma st with
  | stuck => rw [e0] at p; exact p.elim
  | exc c st1 =>
    rw [e0] at p
    exact (pi_list h).run pins s σ H R I0 ⟨st, φ, I, Rr, by rw [e0]; exact p⟩
  | ok r st1 =>
    rw [e0] at p
    cases r with
    | ow c =>
      refine (pi_list h).run pins s σ H R I0 ⟨st, φ, I, Rr, ?_⟩
      rw [e0]
      intro H1 φ1 I1 S1 R1 v hv _
      obtain ⟨src, ds, e, _⟩ := p H1 φ1 I1 S1 R1
      cases e
    | lo i =>
      refine (pi_list h).run pins s σ H R I0 ⟨st, φ, I, Rr, ?_⟩
      rw [e0]
      intro H1 φ1 I1 S1 R1 v hv _
      obtain ⟨src, ds, e, _⟩ := p H1 φ1 I1 S1 R1
      cases e
    | sh d =>
      by_cases ho : ∃ n, d = .obj n
      · obtain ⟨n, rfl⟩ := ho
        refine (pi_list h).run pins s σ H R I0 ⟨st, φ, I, Rr, ?_⟩
        rw [e0]
        intro H1 φ1 I1 S1 R1 v hv hnw
        clear hnw
        obtain ⟨src, ds, e, ea, q⟩ := p H1 φ1 I1 S1 R1
        cases e
        have hv : Rv X.K φ1 I1 (.obj n) v := hv
        cases hv with
        | obj hn =>
          rename_i a
          have hc : st1.store[n]? = some (.ls ds) := by
            simp only [Src.at] at ea
            split at ea
            · cases ea; assumption
            · cases ea
          rcases R1.cells n _ a hc hn with z | ⟨o, g1, g2, g3⟩
          · cases z
          · cases g3 with
            | ls r =>
              rename_i vs
              exact ⟨a, rfl, ⟨vs, .inl (.inl g1)⟩, q _ (walk_cell hn)⟩
      · have hs : srcOf (.sh d) = (asSeq d).map Src.fix := by
          cases d <;> first | rfl | exact absurd ⟨_, rfl⟩ ho
        cases e1 : asL d with
        | some ds =>
          refine (pi_list h).run pins s σ H R I0 ⟨st, φ, I, Rr, ?_⟩
          rw [e0]
          intro H1 φ1 I1 S1 R1 v hv _
          obtain ⟨src, ds', e, ea, q⟩ := p H1 φ1 I1 S1 R1
          rw [hs] at e
          unfold asSeq at e
          rw [e1] at e
          cases e
          obtain ⟨x, vs, rfl, g1, g2⟩ := Seen.asL (Ex.refl I1) (Seen.rv hv) e1
          exact ⟨x, rfl, ⟨vs, sqL_mono R1.ext g1⟩, q _ (walk_l g1 g2).s⟩
        | none =>
          refine (pi_tup h).run pins s σ H R I0 ⟨st, φ, I, Rr, ?_⟩
          rw [e0]
          intro H1 φ1 I1 S1 R1 v hv _
          obtain ⟨src, ds', e, ea, q⟩ := p H1 φ1 I1 S1 R1
          rw [hs] at e
          unfold asSeq at e
          rw [e1] at e
          cases e2 : asT d with
          | none => rw [e2] at e; cases e
          | some es =>
            rw [e2] at e
            cases e
            obtain ⟨x, vs, rfl, g1, g2⟩ := Seen.asT (Ex.refl I1) (Seen.rv hv) e2
            exact ⟨x, rfl, ⟨vs, sqT_mono R1.ext g1⟩, q _ (walk_t g1 g2).s⟩⟩
variable {elt tg iter : Expr} {ifs : List Expr} {scope : Scope} {own : List (Str × Nat)} {ts : List Nat} {ma : M RV} {g : D → State → Option State} {t : M Bool} {e : M RV}
theorem rd_lcO {σ : L2.St} {H : Hp} {Q : VK} (hts : ∀ i ∈ ts, i ∈ own.map (·.2)) (h : rdR X.K E W (mCompO (own.map (·.2)) ma g t e) σ H Q) :
    tLc (rdIS X.K E W ma) (rdG X.K E ts g) (rdT X.K E WF t) (rdE X.K E WF e.frz) (own.map (·.2)) σ H Q := by
  obtain ⟨st, φ, I, R, p⟩ := h
  refine ⟨st, φ, I, R, (Po.bind p).imp fun r H1 st1 φ1 I1 S1 R1 p1 => ?_⟩
  cases es : srcOf r with
  | none => rw [es] at p1; exact p1.elim
  | some src =>
    rw [es] at p1
    simp only at p1
    cases ea : src.at st1 with
    | none => rw [ea] at p1; exact p1.elim
    | some ds =>
      rw [ea] at p1
      simp only at p1
      refine ⟨src, ds, rfl, ea, fun J hJ => ?_⟩
      refine rd_compS hts R1 hJ ?_
      cases e0 : mCompS (own.map (·.2)) src g t e 1000 0 [] (st1.wipe (own.map (·.2))) with
      | stuck => rw [e0] at p1; exact p1.elim
      | exc c s => rw [e0] at p1; exact p1.elim
      | ok xs st' =>
        rw [e0] at p1
        refine ⟨xs, st', rfl, fun v H' φ' I' S' R' hr hn => p1 H' φ' I' S' R' v hr fun a c _ e2 => ?_⟩
        have := hn a e2
        cases q : H a with
        | none => rfl
        | some o => exact absurd this (S1.there a (by rw [q]; simp))
theorem sr_compO (hc : X.calm = true) (hN : X.N.Nodup) (hi : SR X E W iter ma) (ok : BlkOk X.N X.env.scope scope own) (hts : ∀ i ∈ ts, i ∈ own.map (·.2))
    (hg : ∀ (s : Shared) (H : Hp) (C : Addr) (cl : List (Str × Addr)) (fp : List Addr), SG (X.blk s H scope (compEnvC scope cl C X.env) fp) E tg ts g)
    (ht : ∀ (s : Shared) (H : Hp) (C : Addr) (cl : List (Str × Addr)) (fp : List Addr), PTs (X.blk s H scope (compEnvC scope cl C X.env) fp) ifs (rdT X.K E WF t))
    (he : ∀ (s : Shared) (H : Hp) (C : Addr) (cl : List (Str × Addr)) (fp : List Addr), SR (X.blk s H scope (compEnvC scope cl C X.env) fp) E WF elt e) (hs : ∀ x, foldedSetIterable iter X.env x = Pure.pure x := by intro _; rfl) :
    SR X E W (.ListComp elt [⟨tg, iter, ifs, 0⟩] scope pos) (mCompO (own.map (·.2)) ma g t e) :=
  PEi (pe_lc hc hN (si_src hi) ok hg ht (fun s H C cl fp => se_frz (he s H C cl fp)) hs) fun _ _ _ h => rd_lcO hts h
end
end PM
set_option Elab.async false
set_option linter.all false
set_option maxRecDepth 100000
set_option maxHeartbeats 4000000
namespace Lb
open PySem PySem.Spec L2 PM
def m_divisor : MS :=
  mSeq (mPar 0 1 (mUn opAbs (mV 0)) (mUn opAbs (mV 1)))
  (mSeq (mWhile (fun st => natAt st 1 + 1) (mCmp opGt (mV 1) (mL (.int 0))) (mPar 0 1 (mV 1) (mOp opMod (mV 0) (mV 1))))
  (mRet (mV 0)))
def F_divisor : Fn := runF m_divisor 0
def m_is_tuple_of : MS :=
  mRet (mBl (mAnd (mB (mOp opIsi (mV 0) (mL (.val (.ty "tuple"))))) (mCmp opEq (mUn opLen (mV 0)) (mV 1))))
def F_is_tuple_of : Fn := runF m_is_tuple_of 0
def m_is_integer : MS :=
  mRet (mBl (mAnd (mB (mOp opIsi (mV 0) (mL (.val (.ty "int"))))) (mNot (mB (mOp opIsi (mV 0) (mL (.val (.ty "bool"))))))))
def F_is_integer : Fn := runF m_is_integer 0
def m_is_fraction : MS :=
  mSeq (mIfS (mOr (mNot (mB (mCall 2 F_is_tuple_of (mCons (mV 0) (mCons (mL (.int 2)) (mNil)))))) (mOr (mNot (mB (mCall 1 F_is_integer (mCons (mOp opIx (mV 0) (mL (.int 0))) (mNil))))) (mNot (mB (mCall 1 F_is_integer (mCons (mOp opIx (mV 0) (mL (.int 1))) (mNil))))))) (mRet (mL (.bl false))) (mNx))
  (mRet (mBl (mAnd (mCmp opGt (mOp opIx (mV 0) (mL (.int 1))) (mL (.int 0))) (mCmp opEq (mCall 2 F_divisor (mCons (mOp opIx (mV 0) (mL (.int 0))) (mCons (mOp opIx (mV 0) (mL (.int 1))) (mNil)))) (mL (.int 1))))))
def F_is_fraction : Fn := runF m_is_fraction 0
end Lb
set_option Elab.async false
set_option linter.all false
set_option maxRecDepth 100000
set_option maxHeartbeats 4000000
namespace Lb
open PySem PySem.Spec L2 PM
end Lb
set_option Elab.async false
set_option linter.all false
set_option maxRecDepth 100000
set_option maxHeartbeats 4000000
namespace D1
open PySem PySem.Spec L2 PM Lb
def m__law_pen : MS :=
  mRet (mNew (mDisp [(mL (.str "cells"), mUn opList (mSl (mV 0) (mNo) (mPt (mL (.int 63))))), (mL (.str "used"), mL (.int 0)), (mL (.str "left"), mL (.int 0))]))
def F__law_pen : Fn := runF m__law_pen 0
def m__law_draw (Frec : Fn) : MS :=
  mSeq (mIfS (mCmp opGt (mOp opIx (mV 0) (mL (.str "left"))) (mL (.int 0))) (mSeq (mSet 2 (mOp opMod (mOp opIx (mV 0) (mL (.str "left"))) (mV 1)))
  (mSeq (mPut (mV 0) (mL (.str "left")) (mOp opFdv (mOp opIx (mV 0) (mL (.str "left"))) (mV 1)))
  (mRet (mV 2)))) (mNx))
  (mSeq (mSet 3 (mOp opIx (mV 0) (mL (.str "used"))))
  (mSeq (mPut (mV 0) (mL (.str "used")) (mOp opAdd (mV 3) (mL (.int 1))))
  (mSeq (mSet 4 (mOp opAdd (mOp opMul (mL (.int 43)) (mV 3)) (mL (.int 7))))
  (mSeq (mIfS (mCmp opNe (mOp opIx (mV 0) (mL (.str "cells"))) (mLst (mNil))) (mSet 4 (mOp opIx (mOp opIx (mV 0) (mL (.str "cells"))) (mOp opMod (mV 3) (mUn opLen (mOp opIx (mV 0) (mL (.str "cells"))))))) (mNx))
  (mSeq (mIfS (mAnd (mCmp opLt (mV 3) (mUn opLen (mOp opIx (mV 0) (mL (.str "cells"))))) (mCmp opGe (mUn opAbs (mV 4)) (mOp opPow (mL (.int 10)) (mL (.int 18))))) (mSeq (mPut (mV 0) (mL (.str "left")) (mOp opFdv (mOp opSub (mUn opAbs (mV 4)) (mOp opPow (mL (.int 10)) (mL (.int 18)))) (mV 1)))
  (mRet (mOp opMod (mOp opSub (mUn opAbs (mV 4)) (mOp opPow (mL (.int 10)) (mL (.int 18)))) (mV 1)))) (mNx))
  (mSeq (mSet 5 (mOp opAdd (mOp opMul (mOp opMod (mV 4) (mL (.int 4294967231))) (mL (.int 1103515))) (mOp opMul (mOp opMul (mL (.int 30011)) (mV 3)) (mV 3))))
  (mSeq (mSet 5 (mOp opMod (mOp opAdd (mOp opAdd (mV 5) (mOp opMul (mL (.int 178481)) (mV 3))) (mL (.int 23))) (mL (.int 4294967197))))
  (mSeq (mSet 5 (mOp opMod (mOp opAdd (mOp opAdd (mOp opAdd (mOp opMul (mV 5) (mV 5)) (mOp opMul (mL (.int 16769023)) (mV 5))) (mOp opMul (mL (.int 5)) (mV 3))) (mL (.int 7))) (mL (.int 4294967189))))
  (mSeq (mSet 5 (mOp opFdv (mOp opMod (mOp opMul (mV 5) (mOp opAdd (mV 5) (mL (.int 28629151)))) (mL (.int 4294967291))) (mL (.int 64))))
  (mSeq (mIfS (mCmp opGt (mV 1) (mL (.int 60000000))) (mSet 5 (mOp opAdd (mV 5) (mOp opMul (mL (.int 60000000)) (mCall 2 Frec (mCons (mV 0) (mCons (mOp opAdd (mOp opFdv (mV 1) (mL (.int 60000000))) (mL (.int 1))) (mNil))))))) (mNx))
  (mRet (mOp opMod (mV 5) (mV 1)))))))))))))
def F__law_draw : Nat → Fn
  | 0 => fun _ _ => .stuck
  | n + 1 => runF (m__law_draw (F__law_draw n)) 4
def m__law_pick : MS :=
  mRet (mOp opIx (mV 1) (mCall 2 (F__law_draw 8) (mCons (mV 0) (mCons (mUn opLen (mV 1)) (mNil)))))
def F__law_pick : Fn := runF m__law_pick 0
def m__law_low : MS :=
  mSeq (mPar 2 3 (mUn opAbs (mV 0)) (mUn opAbs (mV 1)))
  (mSeq (mWhile (fun st => natAt st 3 + 1) (mCmp opGt (mV 3) (mL (.int 0))) (mPar 2 3 (mV 3) (mOp opMod (mV 2) (mV 3))))
  (mSeq (mSet 2 (mIf (mCmp opGt (mV 1) (mL (.int 0))) (mV 2) (mUn opNeg (mV 2))))
  (mRet (mTup (mCons (mOp opFdv (mV 0) (mV 2)) (mCons (mOp opFdv (mV 1) (mV 2)) (mNil)))))))
def F__law_low : Fn := runF m__law_low 2
def m__law_integer : MS :=
  mRet (mOp opSub (mCall 2 (F__law_draw 8) (mCons (mV 0) (mCons (mOp opAdd (mOp opMul (mL (.int 2)) (mV 1)) (mL (.int 1))) (mNil)))) (mV 1))
def F__law_integer : Fn := runF m__law_integer 0
def m__law_fraction : MS :=
  mSeq (mSet 1 (mCall 2 F__law_pick (mCons (mV 0) (mCons (mLst (mCons (mL (.int 3)) (mCons (mL (.int 12)) (mCons (mL (.int 1000)) (mCons (mOp opPow (mL (.int 10)) (mL (.int 30))) (mNil)))))) (mNil)))))
  (mRet (mCall 2 F__law_low (mCons (mCall 2 F__law_integer (mCons (mV 0) (mCons (mV 1) (mNil)))) (mCons (mOp opAdd (mL (.int 1)) (mCall 2 (F__law_draw 8) (mCons (mV 0) (mCons (mCall 2 F__law_pick (mCons (mV 0) (mCons (mLst (mCons (mL (.int 1)) (mCons (mL (.int 6)) (mCons (mV 1) (mNil))))) (mNil)))) (mNil))))) (mNil)))))
def F__law_fraction : Fn := runF m__law_fraction 1
end D1
set_option Elab.async false
set_option linter.all false
set_option maxRecDepth 100000
set_option maxHeartbeats 4000000
namespace D4
open PySem PySem.Spec L2 PM
open D1 (m__law_pen F__law_pen)
open Lb (m_is_tuple_of F_is_tuple_of m_is_integer F_is_integer m_divisor F_divisor m_is_fraction F_is_fraction)
def m__law_draw : MS :=
  mSeq (mIfS (mCmp opGt (mOp opIx (mV 0) (mL (.str "left"))) (mL (.int 0))) (mSeq (mSet 2 (mOp opMod (mOp opIx (mV 0) (mL (.str "left"))) (mV 1)))
  (mSeq (mPut (mV 0) (mL (.str "left")) (mOp opFdv (mOp opIx (mV 0) (mL (.str "left"))) (mV 1)))
  (mRet (mV 2)))) (mNx))
  (mSeq (mSet 3 (mOp opIx (mV 0) (mL (.str "used"))))
  (mSeq (mPut (mV 0) (mL (.str "used")) (mOp opAdd (mV 3) (mL (.int 1))))
  (mSeq (mSet 4 (mOp opAdd (mOp opMul (mL (.int 47)) (mV 3)) (mL (.int 17))))
  (mSeq (mIfS (mCmp opNe (mOp opIx (mV 0) (mL (.str "cells"))) (mLst (mNil))) (mSet 4 (mOp opIx (mOp opIx (mV 0) (mL (.str "cells"))) (mOp opMod (mV 3) (mUn opLen (mOp opIx (mV 0) (mL (.str "cells"))))))) (mNx))
  (mSeq (mIfS (mAnd (mCmp opLt (mV 3) (mUn opLen (mOp opIx (mV 0) (mL (.str "cells"))))) (mCmp opGe (mUn opAbs (mV 4)) (mOp opPow (mL (.int 10)) (mL (.int 18))))) (mSeq (mPut (mV 0) (mL (.str "left")) (mOp opFdv (mOp opSub (mUn opAbs (mV 4)) (mOp opPow (mL (.int 10)) (mL (.int 18)))) (mV 1)))
  (mRet (mOp opMod (mOp opSub (mUn opAbs (mV 4)) (mOp opPow (mL (.int 10)) (mL (.int 18)))) (mV 1)))) (mNx))
  (mSeq (mSet 5 (mOp opAdd (mOp opMul (mOp opMod (mV 4) (mL (.int 4294967231))) (mL (.int 1103515245))) (mOp opMul (mOp opMul (mL (.int 40013)) (mV 3)) (mV 3))))
  (mSeq (mSet 5 (mOp opMod (mOp opAdd (mOp opAdd (mV 5) (mOp opMul (mL (.int 524287)) (mV 3))) (mL (.int 29))) (mL (.int 4294967197))))
  (mSeq (mPar 6 7 (mL (.int 0)) (mV 1))
  (mSeq (mWhile (fun st => natAt st 7 + 1) (mCmp opGt (mV 7) (mL (.int 0))) (mSeq (mSet 5 (mOp opMod (mOp opAdd (mOp opAdd (mOp opAdd (mOp opMul (mV 5) (mV 5)) (mOp opMul (mL (.int 12582917)) (mV 5))) (mOp opMul (mL (.int 11)) (mV 3))) (mL (.int 7))) (mL (.int 4294967189))))
  (mSeq (mSet 6 (mOp opAdd (mOp opMul (mV 6) (mL (.int 67108864))) (mOp opFdv (mOp opMod (mOp opMul (mV 5) (mOp opAdd (mV 5) (mL (.int 25165843)))) (mL (.int 4294967279))) (mL (.int 64)))))
  (mSet 7 (mOp opFdv (mV 7) (mL (.int 67108864)))))))
  (mRet (mOp opMod (mV 6) (mV 1))))))))))))
def F__law_draw : Fn := runF m__law_draw 6
def m__law_pick : MS :=
  mRet (mOp opIx (mV 1) (mCall 2 F__law_draw (mCons (mV 0) (mCons (mUn opLen (mV 1)) (mNil)))))
def F__law_pick : Fn := runF m__law_pick 0
def m__law_fraction : MS :=
  mSeq (mPar 2 3 (mUn opAbs (mV 0)) (mV 1))
  (mSeq (mWhile (fun st => natAt st 3 + 1) (mCmp opGt (mV 3) (mL (.int 0))) (mPar 2 3 (mV 3) (mOp opMod (mV 2) (mV 3))))
  (mRet (mTup (mCons (mOp opFdv (mV 0) (mV 2)) (mCons (mOp opFdv (mV 1) (mV 2)) (mNil))))))
def F__law_fraction : Fn := runF m__law_fraction 2
def m__law_integer : MS :=
  mRet (mOp opSub (mCall 2 F__law_draw (mCons (mV 0) (mCons (mOp opAdd (mOp opMul (mL (.int 2)) (mV 1)) (mL (.int 1))) (mNil)))) (mV 1))
def F__law_integer : Fn := runF m__law_integer 0
end D4
set_option Elab.async false
set_option linter.all false
set_option maxRecDepth 100000
set_option maxHeartbeats 4000000
namespace D4
open PySem PySem.Spec L2 PM
def m__law_value : MS :=
  mSeq (mSet 1 (mCall 2 F__law_pick (mCons (mV 0) (mCons (mLst (mCons (mL (.int 1)) (mCons (mL (.int 3)) (mCons (mL (.int 9)) (mCons (mOp opPow (mL (.int 10)) (mL (.int 6))) (mCons (mOp opPow (mL (.int 10)) (mL (.int 38))) (mNil))))))) (mNil)))))
  (mRet (mCall 2 F__law_pick (mCons (mV 0) (mCons (mLst (mCons (mL .non) (mCons (mCall 2 F__law_fraction (mCons (mCall 2 F__law_integer (mCons (mV 0) (mCons (mV 1) (mNil)))) (mCons (mOp opAdd (mL (.int 1)) (mCall 2 F__law_draw (mCons (mV 0) (mCons (mV 1) (mNil))))) (mNil)))) (mCons (mTup (mCons (mL (.int 0)) (mCons (mL (.int 1)) (mNil)))) (mNil))))) (mNil)))))
def F__law_value : Fn := runF m__law_value 1
def m__law_odd : MS :=
  mSeq (mSet 1 (mLst (mCons (mL .non) (mCons (mL (.bl true)) (mCons (mL (.bl false)) (mCons (mL (.int 0)) (mCons (mL (.int 1)) (mCons (mUn opNeg (mL (.int 1))) (mCons (mL (.int 7)) (mCons (mOp opPow (mL (.int 10)) (mL (.int 40))) (mCons (mL (.str "")) (mCons (mL (.str "a")) (mCons (mL (.str "0")) (mCons (mL (.str "zz")) (mCons (mTup (mNil)) (mCons (mTup (mCons (mL (.int 0)) (mNil))) (mCons (mTup (mCons (mL (.int 0)) (mCons (mL (.int 1)) (mNil)))) (mCons (mLst (mNil)) (mCons (mLst (mCons (mL (.int 0)) (mNil))) (mCons (mDisp []) (mCons (mDisp [(mL (.str "a"), mL (.int 0))]) (mNil))))))))))))))))))))))
  (mSeq (mSet 1 (mOp opAdd (mV 1) (mLst (mCons (mTup (mCons (mL .non) (mCons (mL .non) (mNil)))) (mCons (mTup (mCons (mTup (mCons (mL (.int 0)) (mCons (mL (.int 1)) (mNil)))) (mCons (mL .non) (mNil)))) (mCons (mLst (mCons (mTup (mCons (mL .non) (mCons (mL .non) (mNil)))) (mNil))) (mCons (mTup (mCons (mL (.int 1)) (mCons (mL (.int 2)) (mNil)))) (mCons (mTup (mCons (mL (.int 2)) (mCons (mL (.int 4)) (mNil)))) (mCons (mTup (mCons (mL (.int 1)) (mCons (mL (.int 0)) (mNil)))) (mCons (mTup (mCons (mL (.int 1)) (mCons (mUn opNeg (mL (.int 2))) (mNil)))) (mCons (mTup (mCons (mL (.bl true)) (mCons (mL (.int 1)) (mNil)))) (mNil))))))))))))
  (mRet (mCall 2 F__law_pick (mCons (mV 0) (mCons (mOp opAdd (mV 1) (mLst (mCons (mTup (mCons (mL (.int 0)) (mCons (mTup (mCons (mL (.int 0)) (mCons (mL (.int 1)) (mNil)))) (mNil)))) (mCons (mLst (mCons (mTup (mCons (mTup (mCons (mL (.int 0)) (mCons (mL (.int 1)) (mNil)))) (mCons (mTup (mCons (mL (.int 0)) (mCons (mL (.int 1)) (mNil)))) (mNil)))) (mNil))) (mCons (mTup (mCons (mTup (mCons (mL .non) (mCons (mL .non) (mNil)))) (mNil))) (mNil)))))) (mNil))))))
def F__law_odd : Fn := runF m__law_odd 1
end D4
set_option Elab.async false
set_option linter.all false
set_option maxRecDepth 100000
set_option maxHeartbeats 4000000
namespace D4
open PySem PySem.Spec L2 PM
def m__law_bent (Frec : Fn) : MS :=
  mSeq (mIfS (mAnd (mB (mOp opIsi (mV 1) (mTup (mCons (mL (.val (.ty "list"))) (mCons (mL (.val (.ty "tuple"))) (mNil)))))) (mAnd (mCmp opGt (mUn opLen (mV 1)) (mL (.int 0))) (mCmp opGt (mCall 2 F__law_draw (mCons (mV 0) (mCons (mL (.int 6)) (mNil)))) (mL (.int 0))))) (mSeq (mPar 2 3 (mCall 2 F__law_draw (mCons (mV 0) (mCons (mUn opLen (mV 1)) (mNil)))) (mCall 2 F__law_draw (mCons (mV 0) (mCons (mL (.int 9)) (mNil)))))
  (mSeq (mPar 4 5 (mSl (mV 1) (mNo) (mPt (mV 2))) (mSl (mV 1) (mPt (mOp opAdd (mV 2) (mL (.int 1)))) (mNo)))
  (mSeq (mIfS (mCmp opLt (mV 3) (mL (.int 6))) (mSeq (mSet 6 (mLst (mCons (mCall 2 Frec (mCons (mV 0) (mCons (mOp opIx (mV 1) (mV 2)) (mNil)))) (mNil))))
  (mRet (mOp opAdd (mOp opAdd (mV 4) (mIf (mB (mOp opIsi (mV 1) (mL (.val (.ty "list"))))) (mV 6) (mUn opTuple (mV 6)))) (mV 5)))) (mNx))
  (mSeq (mIfS (mCmp opEq (mV 3) (mL (.int 6))) (mRet (mOp opAdd (mV 4) (mV 5))) (mNx))
  (mRet (mIf (mCmp opEq (mV 3) (mL (.int 7))) (mOp opAdd (mSl (mV 1) (mNo) (mPt (mOp opAdd (mV 2) (mL (.int 1))))) (mSl (mV 1) (mPt (mV 2)) (mNo))) (mOp opAdd (mOp opAdd (mV 4) (mUn opRev (mSl (mV 1) (mPt (mV 2)) (mPt (mOp opAdd (mV 2) (mL (.int 2))))))) (mSl (mV 5) (mPt (mL (.int 1))) (mNo))))))))) (mNx))
  (mSeq (mIfS (mAnd (mB (mOp opIsi (mV 1) (mL (.val (.ty "dict"))))) (mAnd (mCmp opGt (mUn opLen (mV 1)) (mL (.int 0))) (mCmp opGt (mCall 2 F__law_draw (mCons (mV 0) (mCons (mL (.int 6)) (mNil)))) (mL (.int 0))))) (mSeq (mStk)
  (mSeq (mStk)
  (mStk))) (mNx))
  (mSeq (mIfS (mAnd (mB (mOp opIsi (mV 1) (mL (.val (.ty "int"))))) (mAnd (mNot (mB (mOp opIsi (mV 1) (mL (.val (.ty "bool")))))) (mCmp opGt (mCall 2 F__law_draw (mCons (mV 0) (mCons (mL (.int 6)) (mNil)))) (mL (.int 0))))) (mRet (mCall 2 F__law_pick (mCons (mV 0) (mCons (mLst (mCons (mOp opAdd (mV 1) (mL (.int 1))) (mCons (mOp opSub (mV 1) (mL (.int 1))) (mCons (mOp opSub (mL (.int 0)) (mV 1)) (mCons (mOp opMul (mL (.int 2)) (mV 1)) (mCons (mBl (mCmp opEq (mV 1) (mL (.int 1)))) (mCons (mTup (mCons (mV 1) (mNil))) (mCons (mL .non) (mNil))))))))) (mNil))))) (mNx))
  (mRet (mCall 1 F__law_odd (mCons (mV 0) (mNil))))))
def F__law_bent : Nat → Fn
  | 0 => fun _ _ => .stuck
  | n + 1 => runF (m__law_bent (F__law_bent n)) 7
def m__law_is_value : MS :=
  mSeq (mIfS (mOr (mNot (mB (mOp opIsi (mV 0) (mL (.val (.ty "tuple")))))) (mCmp opNe (mUn opLen (mV 0)) (mL (.int 2)))) (mRet (mL (.bl false))) (mNx))
  (mSeq (mIfS (mCmp opNe (mComp [1] (mIt (mV 0)) (gN 1) (mOr (mNot (mB (mOp opIsi (mV 1) (mL (.val (.ty "int")))))) (mB (mOp opIsi (mV 1) (mL (.val (.ty "bool")))))) (mV 1)) (mLst (mNil))) (mRet (mL (.bl false))) (mNx))
  (mRet (mBl (mAnd (mCmp opGt (mOp opIx (mV 0) (mL (.int 1))) (mL (.int 0))) (mCmp opEq (mCall 2 F__law_fraction (mCons (mOp opIx (mV 0) (mL (.int 0))) (mCons (mOp opIx (mV 0) (mL (.int 1))) (mNil)))) (mV 0))))))
def F__law_is_value : Fn := runF m__law_is_value 1
end D4
set_option Elab.async false
set_option linter.all false
set_option maxRecDepth 100000
set_option maxHeartbeats 4000000
namespace Lb
open PySem PySem.Spec L2 PM
def m_is_list : MS :=
  mRet (mOp opIsi (mV 0) (mTup (mCons (mL (.val (.ty "list"))) (mCons (mL (.val (.ty "tuple"))) (mNil)))))
def F_is_list : Fn := runF m_is_list 0
def m_is_pair : MS :=
  mRet (mBl (mAnd (mB (mCall 2 F_is_tuple_of (mCons (mV 0) (mCons (mL (.int 2)) (mNil))))) (mB (mUn opAll (mComp [1] (mIt (mV 0)) (gN 1) (mYes) (mBl (mOr (mCmp opIs2 (mV 1) (mL .non)) (mB (mCall 1 F_is_fraction (mCons (mV 1) (mNil)))))))))))
def F_is_pair : Fn := runF m_is_pair 1
def m_are_pairs : MS :=
  mRet (mBl (mAnd (mB (mCall 1 F_is_list (mCons (mV 0) (mNil)))) (mAnd (mCh opLe opLe (mL (.int 1)) (mUn opLen (mV 0)) (mL (.int 3))) (mB (mUn opAll (mComp [1] (mIt (mV 0)) (gN 1) (mYes) (mCall 1 F_is_pair (mCons (mV 1) (mNil)))))))))
def F_are_pairs : Fn := runF m_are_pairs 1
def m_Wishes___init__ : MS :=
  mSeq (mIfS (mNot (mB (mCall 1 F_are_pairs (mCons (mV 1) (mNil))))) (mRaise "InvalidWishes" ["value"] (mCons (mV 1) (mNil))) (mNx))
  (mSetF ["Wishes"] "kept" (mV 0) (mUn opTuple (mV 1)))
def F_Wishes___init__ : Fn := runF m_Wishes___init__ 0
def m_Wishes_pairs : MS :=
  mRet (mFld ["Wishes"] "kept" (mV 0))
def F_Wishes_pairs : Fn := runF m_Wishes_pairs 0
def m_is_between : MS :=
  mRet (mBl (mAnd (mB (mCall 1 F_is_integer (mCons (mV 0) (mNil)))) (mCh opLe opLe (mV 1) (mV 0) (mV 2))))
def F_is_between : Fn := runF m_is_between 0
end Lb
set_option Elab.async false
set_option linter.all false
set_option maxRecDepth 100000
set_option maxHeartbeats 4000000
namespace A73
open PySem PySem.Spec L2 PM
open D1 (m__law_pen F__law_pen)
open D4 (m__law_draw F__law_draw m__law_pick F__law_pick m__law_odd F__law_odd m__law_bent F__law_bent m__law_fraction F__law_fraction m__law_integer F__law_integer m__law_value F__law_value m__law_is_value F__law_is_value)
open Lb (m_is_list F_is_list m_is_tuple_of F_is_tuple_of m_is_integer F_is_integer m_divisor F_divisor m_is_fraction F_is_fraction m_is_pair F_is_pair m_Wishes_pairs F_Wishes_pairs m_is_between F_is_between)
def m_are_pairs : MS :=
  mRet (mBl (mAnd (mB (mCall 1 F_is_list (mCons (mV 0) (mNil)))) (mAnd (mCh opLe opLe (mL (.int 1)) (mUn opLen (mV 0)) (mL (.int 3))) (mB (mUn opAll (mCompO [1] (mV 0) (gN 1) (mYes) (mCall 1 F_is_pair (mCons (mV 1) (mNil)))))))))
def F_are_pairs : Fn := runF m_are_pairs 1
def m_Wishes___init__ : MS :=
  mSeq (mIfS (mNot (mB (mCall 1 F_are_pairs (mCons (mV 1) (mNil))))) (mRaise "InvalidWishes" ["value"] (mCons (mV 1) (mNil))) (mNx))
  (mSetF ["Wishes"] "kept" (mV 0) (mUn opTuple (mV 1)))
def F_Wishes___init__ : Fn := runF m_Wishes___init__ 0
def m_Wishes___eq__ : MS :=
  mRet (mBl (mAnd (mB (mIsiX isiX isiT isiD (mV 1) (mL (.cls "Wishes")))) (mCmp opEq (mFld ["Wishes"] "kept" (mV 0)) (mFld ["Wishes"] "kept" (mV 1)))))
def F_Wishes___eq__ : Fn := runF m_Wishes___eq__ 0
def m__law_copied : MS :=
  mSeq (mSet 1 (mNew (mUn opList (mV 0))))
  (mSeq (mSet 2 (mFz (mMake "Wishes" 1 F_Wishes___init__ (mCons (mV 1) (mNil)))))
  (mSeq (mDrop (mMut fApp (mV 1) (mCons (mTup (mCons (mL .non) (mCons (mL .non) (mNil)))) (mNil))))
  (mSeq (mPutL (mV 1) (mL (.int 0)) (mL .non))
  (mRet (mBl (mAnd (mCmpE false [("Wishes", F_Wishes___eq__)] opEq (mUn opRepr (mProp [("Wishes", F_Wishes_pairs)] (mV 2))) (mUn opRepr (mUn opTuple (mV 0)))) (mCmpE false [("Wishes", F_Wishes___eq__)] opEq (mV 2) (mFz (mMake "Wishes" 1 F_Wishes___init__ (mCons (mV 0) (mNil)))))))))))
def F__law_copied : Fn := runF m__law_copied 2
def m__law_are_duos : MS :=
  mSeq (mIfS (mOr (mNot (mB (mOp opIsi (mV 0) (mTup (mCons (mL (.val (.ty "list"))) (mCons (mL (.val (.ty "tuple"))) (mNil))))))) (mNot (mCh opLt opLt (mL (.int 0)) (mUn opLen (mV 0)) (mL (.int 4))))) (mRet (mL (.bl false))) (mNx))
  (mSeq (mFor (mIt (mV 0)) (gN 1) (mSeq (mIfS (mOr (mNot (mB (mOp opIsi (mV 1) (mL (.val (.ty "tuple")))))) (mCmp opNe (mUn opLen (mV 1)) (mL (.int 2)))) (mRet (mL (.bl false))) (mNx))
  (mIfS (mCmp opNe (mComp [2] (mIt (mV 1)) (gN 2) (mAnd (mCmp opIsNot2 (mV 2) (mL .non)) (mNot (mB (mCall 1 F__law_is_value (mCons (mV 2) (mNil)))))) (mV 2)) (mLst (mNil))) (mRet (mL (.bl false))) (mNx))))
  (mRet (mL (.bl true))))
def F__law_are_duos : Fn := runF m__law_are_duos 2
def m__law_made : MS :=
  mSeq (mTry (mSet 1 (mFz (mMake "Wishes" 1 F_Wishes___init__ (mCons (mV 0) (mNil))))) flyX [("InvalidWishes", some 2, mRet (mTup (mCons (mL (.str "invalid")) (mCons (mUn opRepr (mFldX ["InvalidPlayers", "InvalidWishes"] "value" (mV 2))) (mCons (mIsiX isiX isiT isiD (mV 2) (mL (.val (.ty "ValueError")))) (mCons (mIsiX isiX isiT isiD (mV 2) (mL (.cls "InvalidPlayers"))) (mNil)))))))])
  (mRet (mTup (mCons (mL (.str "made")) (mCons (mUn opRepr (mProp [("Wishes", F_Wishes_pairs)] (mV 1))) (mNil)))))
def F__law_made : Fn := runF m__law_made 2
def m__law_is_right : MS :=
  mSeq (mSet 1 (mIf (mB (mCall 1 F__law_are_duos (mCons (mV 0) (mNil)))) (mTup (mCons (mL (.str "made")) (mCons (mUn opRepr (mUn opTuple (mV 0))) (mNil)))) (mTup (mCons (mL (.str "invalid")) (mCons (mUn opRepr (mV 0)) (mCons (mL (.bl true)) (mCons (mL (.bl false)) (mNil))))))))
  (mSeq (mSet 2 (mUn opRepr (mV 0)))
  (mRet (mBl (mAnd (mCmp opEq (mCall 1 F__law_made (mCons (mV 0) (mNil))) (mV 1)) (mCmp opEq (mUn opRepr (mV 0)) (mV 2))))))
def F__law_is_right : Fn := runF m__law_is_right 2
def m__law_is_equal : MS :=
  mSeq (mAsg (gT 2 (gsCons (gN 2) (gsCons (gN 3) (gsNil)))) (mTup (mCons (mFz (mMake "Wishes" 1 F_Wishes___init__ (mCons (mV 0) (mNil)))) (mCons (mFz (mMake "Wishes" 1 F_Wishes___init__ (mCons (mV 1) (mNil)))) (mNil)))))
  (mSeq (mSet 4 (mBl (mCmpE false [("Wishes", F_Wishes___eq__)] opEq (mUn opList (mV 0)) (mUn opList (mV 1)))))
  (mSeq (mIfS (mOr (mCmpE true [("Wishes", F_Wishes___eq__)] opNe (mBl (mCmpE false [("Wishes", F_Wishes___eq__)] opEq (mV 2) (mV 3))) (mV 4)) (mOr (mCmpE false [("Wishes", F_Wishes___eq__)] opEq (mBl (mCmpE true [("Wishes", F_Wishes___eq__)] opNe (mV 2) (mV 3))) (mV 4)) (mNot (mCmpE false [("Wishes", F_Wishes___eq__)] opEq (mV 2) (mFz (mMake "Wishes" 1 F_Wishes___init__ (mCons (mUn opTuple (mV 0)) (mNil)))))))) (mRet (mL (.bl false))) (mNx))
  (mRet (mBl (mCmpE false [("Wishes", F_Wishes___eq__)] opEq (mComp [5] (mIt (mLst (mCons (mV 0) (mCons (mUn opTuple (mV 0)) (mCons (mL .non) (mCons (mL (.int 0)) (mNil))))))) (gN 5) (mOr (mCmpE false [("Wishes", F_Wishes___eq__)] opEq (mV 2) (mV 5)) (mNot (mCmpE true [("Wishes", F_Wishes___eq__)] opNe (mV 2) (mV 5)))) (mV 5)) (mLst (mNil)))))))
def F__law_is_equal : Fn := runF m__law_is_equal 4
def m_Wishes_exactly : MS :=
  mSeq (mIfS (mOr (mNot (mB (mCall 1 F_is_list (mCons (mV 1) (mNil))))) (mOr (mNot (mCh opLe opLe (mL (.int 1)) (mUn opLen (mV 1)) (mL (.int 3)))) (mNot (mB (mUn opAll (mComp [2] (mIt (mV 1)) (gN 2) (mYes) (mCall 1 F_is_fraction (mCons (mV 2) (mNil))))))))) (mRaise "InvalidWishes" ["value"] (mCons (mV 1) (mNil))) (mNx))
  (mRet (mFz (mMakeL 0 "Wishes" 1 F_Wishes___init__ (mCons (mComp [2] (mIt (mV 1)) (gN 2) (mYes) (mTup (mCons (mV 2) (mCons (mV 2) (mNil))))) (mNil)))))
def F_Wishes_exactly : Fn := runF m_Wishes_exactly 1
def m__law_exact : MS :=
  mSeq (mTry (mSet 1 (mCm "Wishes" 1 F_Wishes_exactly (mCons (mV 0) (mNil)))) flyX [("InvalidWishes", some 2, mRet (mTup (mCons (mL (.str "invalid")) (mCons (mUn opRepr (mFldX ["InvalidPlayers", "InvalidWishes"] "value" (mV 2))) (mNil)))))])
  (mRet (mTup (mCons (mL (.str "made")) (mCons (mUn opRepr (mProp [("Wishes", F_Wishes_pairs)] (mV 1))) (mNil)))))
def F__law_exact : Fn := runF m__law_exact 2
def m__law_is_exact : MS :=
  mSeq (mSet 1 (mTup (mCons (mL (.str "invalid")) (mCons (mUn opRepr (mV 0)) (mNil)))))
  (mSeq (mIfS (mAnd (mB (mOp opIsi (mV 0) (mTup (mCons (mL (.val (.ty "list"))) (mCons (mL (.val (.ty "tuple"))) (mNil)))))) (mCh opLt opLt (mL (.int 0)) (mUn opLen (mV 0)) (mL (.int 4)))) (mIfS (mCmp opEq (mComp [2] (mIt (mV 0)) (gN 2) (mNot (mB (mCall 1 F__law_is_value (mCons (mV 2) (mNil))))) (mV 2)) (mLst (mNil))) (mSet 1 (mTup (mCons (mL (.str "made")) (mCons (mUn opRepr (mUn opTuple (mComp [2] (mIt (mV 0)) (gN 2) (mYes) (mTup (mCons (mV 2) (mCons (mV 2) (mNil))))))) (mNil))))) (mNx)) (mNx))
  (mRet (mBl (mCmp opEq (mCall 1 F__law_exact (mCons (mV 0) (mNil))) (mV 1)))))
def F__law_is_exact : Fn := runF m__law_is_exact 2
def m_Wishes_none : MS :=
  mSeq (mIfS (mNot (mB (mCall 3 F_is_between (mCons (mV 1) (mCons (mL (.int 1)) (mCons (mL (.int 3)) (mNil))))))) (mRaise "InvalidPlayers" ["value"] (mCons (mV 1) (mNil))) (mNx))
  (mRet (mFz (mMakeL 0 "Wishes" 1 F_Wishes___init__ (mCons (mOp opMulL (mLst (mCons (mTup (mCons (mL .non) (mCons (mL .non) (mNil)))) (mNil))) (mV 1)) (mNil)))))
def F_Wishes_none : Fn := runF m_Wishes_none 0
def m__law_none : MS :=
  mTry (mRet (mUn opRepr (mProp [("Wishes", F_Wishes_pairs)] (mCm "Wishes" 1 F_Wishes_none (mCons (mV 0) (mNil)))))) flyX [("InvalidPlayers", some 1, mRet (mTup (mCons (mL (.str "players")) (mCons (mUn opRepr (mFldX ["InvalidPlayers", "InvalidWishes"] "value" (mV 1))) (mCons (mIsiX isiX isiT isiD (mV 1) (mL (.val (.ty "ValueError")))) (mNil))))))]
def F__law_none : Fn := runF m__law_none 1
def m_law : MS :=
  mSeq (mSet 1 (mCall 1 F__law_pen (mCons (mV 0) (mNil))))
  (mSeq (mFor (mRg1 (mOp opAdd (mL (.int 6)) (mOp opMin (mL (.int 6)) (mUn opLen (mV 0))))) (gN 2) (mSeq (mSet 3 (mOp opAdd (mL (.int 1)) (mCall 2 F__law_draw (mCons (mV 1) (mCons (mL (.int 3)) (mNil))))))
  (mSeq (mSet 4 (mComp [5] (mRg1 (mV 3)) (gN 5) (mYes) (mTup (mCons (mCall 1 F__law_value (mCons (mV 1) (mNil))) (mCons (mCall 1 F__law_value (mCons (mV 1) (mNil))) (mNil))))))
  (mSeq (mSet 6 (mOp opAdd (mSl (mV 4) (mNo) (mPt (mUn opNeg (mL (.int 1))))) (mLst (mCons (mTup (mCons (mCall 1 F__law_value (mCons (mV 1) (mNil))) (mCons (mCall 2 F__law_pick (mCons (mV 1) (mCons (mLst (mCons (mOp opIx (mOp opIx (mV 4) (mUn opNeg (mL (.int 1)))) (mL (.int 1))) (mCons (mL .non) (mNil)))) (mNil)))) (mNil)))) (mNil)))))
  (mSeq (mIfS (mOr (mNot (mB (mCall 1 F__law_is_right (mCons (mV 4) (mNil))))) (mOr (mNot (mB (mCall 1 F__law_is_right (mCons (mUn opTuple (mV 4)) (mNil))))) (mNot (mB (mCall 2 F__law_is_equal (mCons (mV 4) (mCons (mV 6) (mNil)))))))) (mRet (mL (.bl false))) (mNx))
  (mSeq (mFor (mIt (mLst (mCons (mCall 2 (F__law_bent 6) (mCons (mV 1) (mCons (mV 4) (mNil)))) (mCons (mCall 2 (F__law_bent 6) (mCons (mV 1) (mCons (mUn opTuple (mV 4)) (mNil)))) (mCons (mCall 1 F__law_odd (mCons (mV 1) (mNil))) (mCons (mOp opAdd (mV 4) (mV 4)) (mCons (mLst (mCons (mV 4) (mNil))) (mNil)))))))) (gN 7) (mIfS (mNot (mB (mCall 1 F__law_is_right (mCons (mV 7) (mNil))))) (mRet (mL (.bl false))) (mNx)))
  (mSeq (mSet 8 (mSl (mOp opAdd (mComp [9, 10] (mIt (mV 4)) (gT 2 (gsCons (gN 9) (gsCons (gN 10) (gsNil)))) (mCmp opIsNot2 (mV 9) (mL .non)) (mV 9)) (mLst (mCons (mTup (mCons (mL (.int 1)) (mCons (mL (.int 2)) (mNil)))) (mNil)))) (mNo) (mPt (mL (.int 3)))))
  (mSeq (mFor (mIt (mLst (mCons (mV 8) (mCons (mUn opTuple (mV 8)) (mCons (mCall 2 (F__law_bent 6) (mCons (mV 1) (mCons (mV 8) (mNil)))) (mCons (mOp opAdd (mOp opAdd (mV 8) (mV 8)) (mV 8)) (mCons (mV 4) (mCons (mCall 1 F__law_odd (mCons (mV 1) (mNil))) (mNil))))))))) (gN 7) (mIfS (mNot (mB (mCall 1 F__law_is_exact (mCons (mV 7) (mNil))))) (mRet (mL (.bl false))) (mNx)))
  (mSeq (mFor (mIt (mLst (mCons (mV 3) (mCons (mL (.int 1)) (mCons (mL (.int 3)) (mCons (mL (.int 0)) (mCons (mL (.int 4)) (mCons (mUn opNeg (mL (.int 1))) (mCons (mL (.bl true)) (mCons (mL .non) (mCons (mL (.str "2")) (mCons (mCall 1 F__law_odd (mCons (mV 1) (mNil))) (mNil))))))))))))) (gN 7) (mSeq (mSet 11 (mTup (mCons (mL (.str "players")) (mCons (mUn opRepr (mV 7)) (mCons (mL (.bl true)) (mNil))))))
  (mSeq (mIfS (mAnd (mB (mOp opIsi (mV 7) (mL (.val (.ty "int"))))) (mAnd (mNot (mB (mOp opIsi (mV 7) (mL (.val (.ty "bool")))))) (mCh opLt opLt (mL (.int 0)) (mV 7) (mL (.int 4))))) (mSet 11 (mUn opRepr (mOp opMulA (mTup (mCons (mTup (mCons (mL .non) (mCons (mL .non) (mNil)))) (mNil))) (mV 7)))) (mNx))
  (mIfS (mCmp opNe (mCall 1 F__law_none (mCons (mV 7) (mNil))) (mV 11)) (mRet (mL (.bl false))) (mNx)))))
  (mIfS (mNot (mB (mCall 1 F__law_copied (mCons (mV 4) (mNil))))) (mRet (mL (.bl false))) (mNx)))))))))))
  (mRet (mL (.bl true))))
def F_law : Fn := runF m_law 11
end A73
set_option Elab.async false
set_option linter.all false
set_option maxRecDepth 100000
set_option maxHeartbeats 4000000
namespace A73
open PySem PySem.Spec L2 PM
open D1 (m__law_pen F__law_pen)
open D4 (m__law_draw F__law_draw m__law_pick F__law_pick m__law_odd F__law_odd m__law_bent F__law_bent m__law_fraction F__law_fraction m__law_integer F__law_integer m__law_value F__law_value m__law_is_value F__law_is_value)
open Lb (m_is_list F_is_list m_is_tuple_of F_is_tuple_of m_is_integer F_is_integer m_divisor F_divisor m_is_fraction F_is_fraction m_is_pair F_is_pair m_Wishes_pairs F_Wishes_pairs m_is_between F_is_between)
theorem sc__law_pen : FnScope ["_law_script"] ["_law_script"] (defScope tp__law_pen) := ⟨rfl, rfl, rfl, by decide +kernel, rfl, by decide +kernel, by decide +kernel⟩
theorem sc__law_draw : FnScope ["_law_pen_here", "_law_many", "_law_digit", "_law_used", "_law_cell", "_law_blend", "_law_total", "_law_size"] ["_law_pen_here", "_law_many"] (defScope tp__law_draw) := ⟨rfl, rfl, rfl, by decide +kernel, rfl, by decide +kernel, by decide +kernel⟩
theorem sc__law_pick : FnScope ["_law_pen_here", "_law_options"] ["_law_pen_here", "_law_options"] (defScope tp__law_pick) := ⟨rfl, rfl, rfl, by decide +kernel, rfl, by decide +kernel, by decide +kernel⟩
theorem sc__law_odd : FnScope ["_law_pen_here", "_law_some"] ["_law_pen_here"] (defScope tp__law_odd) := ⟨rfl, rfl, rfl, by decide +kernel, rfl, by decide +kernel, by decide +kernel⟩
theorem sc__law_bent : FnScope ["_law_pen_here", "_law_thing", "_law_at", "_law_way", "_law_front", "_law_back", "_law_inner", "_law_found", "_law_name"] ["_law_pen_here", "_law_thing"] (defScope tp__law_bent) := ⟨rfl, rfl, rfl, by decide +kernel, rfl, by decide +kernel, by decide +kernel⟩
theorem sc_is_list : FnScope ["value"] ["value"] (defScope tp_is_list) := ⟨rfl, rfl, rfl, by decide +kernel, rfl, by decide +kernel, by decide +kernel⟩
theorem sc_is_tuple_of : FnScope ["value", "size"] ["value", "size"] (defScope tp_is_tuple_of) := ⟨rfl, rfl, rfl, by decide +kernel, rfl, by decide +kernel, by decide +kernel⟩
theorem sc_is_integer : FnScope ["value"] ["value"] (defScope tp_is_integer) := ⟨rfl, rfl, rfl, by decide +kernel, rfl, by decide +kernel, by decide +kernel⟩
theorem sc_divisor : FnScope ["one", "other"] ["one", "other"] (defScope tp_divisor) := ⟨rfl, rfl, rfl, by decide +kernel, rfl, by decide +kernel, by decide +kernel⟩
theorem sc_is_fraction : FnScope ["value"] ["value"] (defScope tp_is_fraction) := ⟨rfl, rfl, rfl, by decide +kernel, rfl, by decide +kernel, by decide +kernel⟩
theorem sc_is_pair : FnScope ["value", "end"] ["value"] (defScope tp_is_pair) := ⟨rfl, rfl, rfl, by decide +kernel, rfl, by decide +kernel, by decide +kernel⟩
theorem sc_are_pairs : FnScope ["value", "pair"] ["value"] (defScope tp_are_pairs) := ⟨rfl, rfl, rfl, by decide +kernel, rfl, by decide +kernel, by decide +kernel⟩
theorem sc_Wishes___init__ : FnScope ["self", "pairs"] ["self", "pairs"] (defScope tp_Wishes___init__) := ⟨rfl, rfl, rfl, by decide +kernel, rfl, by decide +kernel, by decide +kernel⟩
theorem sc_Wishes___eq__ : FnScope ["self", "other"] ["self", "other"] (defScope tp_Wishes___eq__) := ⟨rfl, rfl, rfl, by decide +kernel, rfl, by decide +kernel, by decide +kernel⟩
theorem sc_Wishes_pairs : FnScope ["self"] ["self"] (defScope tp_Wishes_pairs) := ⟨rfl, rfl, rfl, by decide +kernel, rfl, by decide +kernel, by decide +kernel⟩
theorem sc__law_copied : FnScope ["_law_duos", "_law_given", "_law_found"] ["_law_duos"] (defScope tp__law_copied) := ⟨rfl, rfl, rfl, by decide +kernel, rfl, by decide +kernel, by decide +kernel⟩
theorem sc__law_fraction : FnScope ["_law_upper", "_law_lower", "_law_one", "_law_another"] ["_law_upper", "_law_lower"] (defScope tp__law_fraction) := ⟨rfl, rfl, rfl, by decide +kernel, rfl, by decide +kernel, by decide +kernel⟩
theorem sc__law_integer : FnScope ["_law_pen_here", "_law_top"] ["_law_pen_here", "_law_top"] (defScope tp__law_integer) := ⟨rfl, rfl, rfl, by decide +kernel, rfl, by decide +kernel, by decide +kernel⟩
theorem sc__law_value : FnScope ["_law_pen_here", "_law_top"] ["_law_pen_here"] (defScope tp__law_value) := ⟨rfl, rfl, rfl, by decide +kernel, rfl, by decide +kernel, by decide +kernel⟩
theorem sc__law_is_value : FnScope ["_law_value_here", "_law_one"] ["_law_value_here"] (defScope tp__law_is_value) := ⟨rfl, rfl, rfl, by decide +kernel, rfl, by decide +kernel, by decide +kernel⟩
theorem sc__law_are_duos : FnScope ["_law_value_here", "_law_one", "_law_end"] ["_law_value_here"] (defScope tp__law_are_duos) := ⟨rfl, rfl, rfl, by decide +kernel, rfl, by decide +kernel, by decide +kernel⟩
theorem sc__law_made : FnScope ["_law_value_here", "_law_found", "e"] ["_law_value_here"] (defScope tp__law_made) := ⟨rfl, rfl, rfl, by decide +kernel, rfl, by decide +kernel, by decide +kernel⟩
theorem sc__law_is_right : FnScope ["_law_value_here", "_law_due", "_law_kept"] ["_law_value_here"] (defScope tp__law_is_right) := ⟨rfl, rfl, rfl, by decide +kernel, rfl, by decide +kernel, by decide +kernel⟩
theorem sc__law_is_equal : FnScope ["_law_duos", "_law_other", "_law_one", "_law_another", "_law_same", "_law_value_here"] ["_law_duos", "_law_other"] (defScope tp__law_is_equal) := ⟨rfl, rfl, rfl, by decide +kernel, rfl, by decide +kernel, by decide +kernel⟩
theorem sc_Wishes_exactly : FnScope ["cls", "means", "mean"] ["cls", "means"] (defScope tp_Wishes_exactly) := ⟨rfl, rfl, rfl, by decide +kernel, rfl, by decide +kernel, by decide +kernel⟩
theorem sc__law_exact : FnScope ["_law_value_here", "_law_found", "e"] ["_law_value_here"] (defScope tp__law_exact) := ⟨rfl, rfl, rfl, by decide +kernel, rfl, by decide +kernel, by decide +kernel⟩
theorem sc__law_is_exact : FnScope ["_law_value_here", "_law_due", "_law_one"] ["_law_value_here"] (defScope tp__law_is_exact) := ⟨rfl, rfl, rfl, by decide +kernel, rfl, by decide +kernel, by decide +kernel⟩
theorem sc_is_between : FnScope ["value", "least", "most"] ["value", "least", "most"] (defScope tp_is_between) := ⟨rfl, rfl, rfl, by decide +kernel, rfl, by decide +kernel, by decide +kernel⟩
theorem sc_Wishes_none : FnScope ["cls", "players"] ["cls", "players"] (defScope tp_Wishes_none) := ⟨rfl, rfl, rfl, by decide +kernel, rfl, by decide +kernel, by decide +kernel⟩
theorem sc__law_none : FnScope ["_law_many", "e"] ["_law_many"] (defScope tp__law_none) := ⟨rfl, rfl, rfl, by decide +kernel, rfl, by decide +kernel, by decide +kernel⟩
theorem sc_law : FnScope ["_law_script", "_law_pen_here", "_law_turn", "_law_many", "_law_duos", "_law_k", "_law_other", "_law_value_here", "_law_some", "_law_low", "_law_high", "_law_due"] ["_law_script"] (defScope tp_law) := ⟨rfl, rfl, rfl, by decide +kernel, rfl, by decide +kernel, by decide +kernel⟩
theorem sc_x_InvalidWishes : FnScope ["self", "value"] ["self", "value"] (defScope tp_x_InvalidWishes) := ⟨rfl, rfl, rfl, by decide +kernel, rfl, by decide +kernel, by decide +kernel⟩
theorem sc_x_InvalidPlayers : FnScope ["self", "value"] ["self", "value"] (defScope tp_x_InvalidPlayers) := ⟨rfl, rfl, rfl, by decide +kernel, rfl, by decide +kernel, by decide +kernel⟩
section
variable {P : Program} {w : World} {K : PySem.W.Frag} {mg : Str → Option Value} {base h : Heap}
theorem xc_InvalidWishes (hX : K.In h) (hG : h.Ns mainGlobals mg) (hc : SaysP fa fn K) : XcP P w K mg base 1 "InvalidWishes" ["value"] := by
  have t := xcB_ok bx_ValueError (hc.fact 86 (f := fun K => xcB "ValueError" "ValueError.__new__" "ValueError.__init__" [.type "ValueError", .type "Exception", .type "BaseException", .type "object"] "InvalidWishes" ["value"] K) rfl)
  have hm := He.free_ok hX hG (hc.fact 39 (f := fun K => (He.Fa.free "ValueError").ok K) rfl)
  obtain ⟨fd, F⟩ := hc.def_ 31 (d := d_x_InvalidWishes) rfl
  exact xc1 t F sc_x_InvalidWishes (fun cdv A outer s H E => pe_bxi t.T (bxn bp_ValueError (by rfl) hm t.vi) rfl (.inl rfl)) (fun cdv A outer s H E => ps_xst t.T (t.no _ (by simp)) rfl (.inl rfl) rfl (.inl rfl) (by decide) (by decide)) (F.bindsN fun kV doc pm an cdv ct us hl => match us, hl with | [_, _], _ => rfl)
theorem xc_InvalidPlayers (hX : K.In h) (hG : h.Ns mainGlobals mg) (hc : SaysP fa fn K) : XcP P w K mg base 1 "InvalidPlayers" ["value"] := by
  have t := xcB_ok bx_ValueError (hc.fact 87 (f := fun K => xcB "ValueError" "ValueError.__new__" "ValueError.__init__" [.type "ValueError", .type "Exception", .type "BaseException", .type "object"] "InvalidPlayers" ["value"] K) rfl)
  have hm := He.free_ok hX hG (hc.fact 39 (f := fun K => (He.Fa.free "ValueError").ok K) rfl)
  obtain ⟨fd, F⟩ := hc.def_ 32 (d := d_x_InvalidPlayers) rfl
  exact xc1 t F sc_x_InvalidPlayers (fun cdv A outer s H E => pe_bxi t.T (bxn bp_ValueError (by rfl) hm t.vi) rfl (.inl rfl)) (fun cdv A outer s H E => ps_xst t.T (t.no _ (by simp)) rfl (.inl rfl) rfl (.inl rfl) (by decide) (by decide)) (F.bindsN fun kV doc pm an cdv ct us hl => match us, hl with | [_, _], _ => rfl)
theorem ok__law_pen (hX : K.In h) (hG : h.Ns mainGlobals mg) (hc : SaysP fa fn K) : FnC P w K mg base 1 (He.ga K "_law_pen") 1 [] F__law_pen := by
  have z_list := He.free_ok hX hG (hc.fact 29 (f := fun K => (He.Fa.free "list").ok K) rfl)
  obtain ⟨fd, F⟩ := hc.def_ 0 (d := d__law_pen) rfl
  refine fn_p F sc__law_pen rfl (fun _ _ _ _ _ _ us hl => match us, hl with | [_], _ => rfl) (fun cdv A outer s H Ee E hr hg tk => ?_)
  have hN := sc__law_pen.nd
  have hu := hu_of hr
  have hq := hq_of hr
  have hi := hi_of hr
  have hv := hv_of hr
  exact ss_one (ss_ret (sr_new (sr_disp (spr_cons (sr_str) (sr_t1 cl_list (by rfl) z_list PyProof.Rows.boot_list (sr_sl (sr_v 0) (sp_no) (sp_pt (sr_int)))) (spr_cons (sr_str) (sr_int) (spr_cons (sr_str) (sr_int) (spr_nil)))))))
theorem ok__law_draw (hX : K.In h) (hG : h.Ns mainGlobals mg) (hc : SaysP fa fn K) : FnC P w K mg base 1 (He.ga K "_law_draw") 2 [] F__law_draw := by
  have z_len := He.free_ok hX hG (hc.fact 30 (f := fun K => (He.Fa.free "len").ok K) rfl)
  have z_abs := He.free_ok hX hG (hc.fact 31 (f := fun K => (He.Fa.free "abs").ok K) rfl)
  obtain ⟨fd, F⟩ := hc.def_ 1 (d := d__law_draw) rfl
  refine fn_p F sc__law_draw rfl (fun _ _ _ _ _ _ us hl => match us, hl with | [_, _], _ => rfl) (fun cdv A outer s H Ee E hr hg tk => ?_)
  have hN := sc__law_draw.nd
  have hu := hu_of hr
  have hq := hq_of hr
  have hi := hi_of hr
  have hv := hv_of hr
  exact ss_cons (ss_if (st_cmp ob_gt (sr_ix hu (sr_v 0) (sr_str)) (sr_int) (by rfl)) (ss_cons (ss_set 2 hN (sr_op os_mod (sr_ix hu (sr_v 0) (sr_str)) (sr_v 1)))
          (ss_cons (ss_put hu (sr_v 0) (sr_str) (sr_op os_fdv (sr_ix hu (sr_v 0) (sr_str)) (sr_v 1)))
          (ss_one (ss_ret (sr_v 2))))) (ss_nil))
          (ss_cons (ss_set 3 hN (sr_ix hu (sr_v 0) (sr_str)))
          (ss_cons (ss_put hu (sr_v 0) (sr_str) (sr_op os_add (sr_v 3) (sr_int)))
          (ss_cons (ss_set 4 hN (sr_op os_add (sr_op os_mul (sr_int) (sr_v 3)) (sr_int)))
          (ss_cons (ss_if (st_cmp (ob_ne hq) (sr_ix hu (sr_v 0) (sr_str)) (sr_lst (sa_nil)) (by rfl)) (ss_one (ss_set 4 hN (sr_ix hu (sr_ix hu (sr_v 0) (sr_str)) (sr_op os_mod (sr_v 3) (sr_b1 cl_len (by rfl) z_len boot_len (sr_ix hu (sr_v 0) (sr_str))))))) (ss_nil))
          (ss_cons (ss_if (PW.pt (sw_and (st_cmp ob_lt (sr_v 3) (sr_b1 cl_len (by rfl) z_len boot_len (sr_ix hu (sr_v 0) (sr_str))) (by rfl)) (sw_and1 (st_cmp ob_ge (sr_b1 cl_abs (by rfl) z_abs PyProof.Rows.boot_abs (sr_v 4)) (sr_op os_pow (sr_int) (sr_int)) (by rfl))))) (ss_cons (ss_put hu (sr_v 0) (sr_str) (sr_op os_fdv (sr_op os_sub (sr_b1 cl_abs (by rfl) z_abs PyProof.Rows.boot_abs (sr_v 4)) (sr_op os_pow (sr_int) (sr_int))) (sr_v 1)))
          (ss_one (ss_ret (sr_op os_mod (sr_op os_sub (sr_b1 cl_abs (by rfl) z_abs PyProof.Rows.boot_abs (sr_v 4)) (sr_op os_pow (sr_int) (sr_int))) (sr_v 1))))) (ss_nil))
          (ss_cons (ss_set 5 hN (sr_op os_add (sr_op os_mul (sr_op os_mod (sr_v 4) (sr_int)) (sr_int)) (sr_op os_mul (sr_op os_mul (sr_int) (sr_v 3)) (sr_v 3))))
          (ss_cons (ss_set 5 hN (sr_op os_mod (sr_op os_add (sr_op os_add (sr_v 5) (sr_op os_mul (sr_int) (sr_v 3))) (sr_int)) (sr_int)))
          (ss_cons (ss_par 6 7 rfl hN (sr_int) (sr_v 1))
          (ss_cons (ss_while (fun st => natAt st 7 + 1) (passes_of rfl) (st_cmp ob_gt (sr_v 7) (sr_int) (by rfl)) (ss_cons (ss_set 5 hN (sr_op os_mod (sr_op os_add (sr_op os_add (sr_op os_add (sr_op os_mul (sr_v 5) (sr_v 5)) (sr_op os_mul (sr_int) (sr_v 5))) (sr_op os_mul (sr_int) (sr_v 3))) (sr_int)) (sr_int)))
          (ss_cons (ss_set 6 hN (sr_op os_add (sr_op os_mul (sr_v 6) (sr_int)) (sr_op os_fdv (sr_op os_mod (sr_op os_mul (sr_v 5) (sr_op os_add (sr_v 5) (sr_int))) (sr_int)) (sr_int))))
          (ss_one (ss_set 7 hN (sr_op os_fdv (sr_v 7) (sr_int)))))))
          (ss_one (ss_ret (sr_op os_mod (sr_v 6) (sr_v 1)))))))))))))
theorem ok__law_pick (hX : K.In h) (hG : h.Ns mainGlobals mg) (hc : SaysP fa fn K) : FnC P w K mg base 2 (He.ga K "_law_pick") 2 [] F__law_pick := by
  have q__law_draw := He.glo_ok hX hG (hc.fact 1 (f := fun K => (He.Fa.glo "_law_draw").ok K) rfl)
  have k__law_draw : PySem.W.keepIn K (.ref (He.ga K "_law_draw")) = true := hc.fact 44 (f := fun K => (He.Fa.keep "_law_draw").ok K) rfl
  have z_len := He.free_ok hX hG (hc.fact 30 (f := fun K => (He.Fa.free "len").ok K) rfl)
  have o__law_draw := ok__law_draw (P := P) (w := w) (base := base) hX hG hc
  obtain ⟨fd, F⟩ := hc.def_ 2 (d := d__law_pick) rfl
  refine fn_p F sc__law_pick rfl (fun _ _ _ _ _ _ us hl => match us, hl with | [_, _], _ => rfl) (fun cdv A outer s H Ee E hr hg tk => ?_)
  have hN := sc__law_pick.nd
  have hu := hu_of hr
  have hq := hq_of hr
  have hi := hi_of hr
  have hv := hv_of hr
  exact ss_one (ss_ret (sr_ix hu (sr_v 1) (sr_call o__law_draw (hr.mono (by decide)) hg tk (by rfl) q__law_draw k__law_draw (sa_cons (sr_v 0) (sa_cons (sr_b1 cl_len (by rfl) z_len boot_len (sr_v 1)) (sa_nil))))))
theorem ok__law_odd (hX : K.In h) (hG : h.Ns mainGlobals mg) (hc : SaysP fa fn K) : FnC P w K mg base 3 (He.ga K "_law_odd") 1 [] F__law_odd := by
  have q__law_pick := He.glo_ok hX hG (hc.fact 2 (f := fun K => (He.Fa.glo "_law_pick").ok K) rfl)
  have k__law_pick : PySem.W.keepIn K (.ref (He.ga K "_law_pick")) = true := hc.fact 45 (f := fun K => (He.Fa.keep "_law_pick").ok K) rfl
  have o__law_pick := ok__law_pick (P := P) (w := w) (base := base) hX hG hc
  obtain ⟨fd, F⟩ := hc.def_ 3 (d := d__law_odd) rfl
  refine fn_p F sc__law_odd rfl (fun _ _ _ _ _ _ us hl => match us, hl with | [_], _ => rfl) (fun cdv A outer s H Ee E hr hg tk => ?_)
  have hN := sc__law_odd.nd
  have hu := hu_of hr
  have hq := hq_of hr
  have hi := hi_of hr
  have hv := hv_of hr
  exact ss_cons (ss_set 1 hN (sr_lst (sa_cons (sr_non) (sa_cons (sr_bl) (sa_cons (sr_bl) (sa_cons (sr_int) (sa_cons (sr_int) (sa_cons (sr_un us_neg (sr_int)) (sa_cons (sr_int) (sa_cons (sr_op os_pow (sr_int) (sr_int)) (sa_cons (sr_str) (sa_cons (sr_str) (sa_cons (sr_str) (sa_cons (sr_str) (sa_cons (sr_tup (sa_nil)) (sa_cons (sr_tup (sa_cons (sr_int) (sa_nil))) (sa_cons (sr_tup (sa_cons (sr_int) (sa_cons (sr_int) (sa_nil)))) (sa_cons (sr_lst (sa_nil)) (sa_cons (sr_lst (sa_cons (sr_int) (sa_nil))) (sa_cons (sr_disp0) (sa_cons (sr_disp (spr_cons (sr_str) (sr_int) (spr_nil))) (sa_nil))))))))))))))))))))))
          (ss_cons (ss_set 1 hN (sr_op os_add (sr_v 1) (sr_lst (sa_cons (sr_tup (sa_cons (sr_non) (sa_cons (sr_non) (sa_nil)))) (sa_cons (sr_tup (sa_cons (sr_tup (sa_cons (sr_int) (sa_cons (sr_int) (sa_nil)))) (sa_cons (sr_non) (sa_nil)))) (sa_cons (sr_lst (sa_cons (sr_tup (sa_cons (sr_non) (sa_cons (sr_non) (sa_nil)))) (sa_nil))) (sa_cons (sr_tup (sa_cons (sr_int) (sa_cons (sr_int) (sa_nil)))) (sa_cons (sr_tup (sa_cons (sr_int) (sa_cons (sr_int) (sa_nil)))) (sa_cons (sr_tup (sa_cons (sr_int) (sa_cons (sr_int) (sa_nil)))) (sa_cons (sr_tup (sa_cons (sr_int) (sa_cons (sr_un us_neg (sr_int)) (sa_nil)))) (sa_cons (sr_tup (sa_cons (sr_bl) (sa_cons (sr_int) (sa_nil)))) (sa_nil))))))))))))
          (ss_one (ss_ret (sr_call o__law_pick (hr.mono (by decide)) hg tk (by rfl) q__law_pick k__law_pick (sa_cons (sr_v 0) (sa_cons (sr_op os_add (sr_v 1) (sr_lst (sa_cons (sr_tup (sa_cons (sr_int) (sa_cons (sr_tup (sa_cons (sr_int) (sa_cons (sr_int) (sa_nil)))) (sa_nil)))) (sa_cons (sr_lst (sa_cons (sr_tup (sa_cons (sr_tup (sa_cons (sr_int) (sa_cons (sr_int) (sa_nil)))) (sa_cons (sr_tup (sa_cons (sr_int) (sa_cons (sr_int) (sa_nil)))) (sa_nil)))) (sa_nil))) (sa_cons (sr_tup (sa_cons (sr_tup (sa_cons (sr_non) (sa_cons (sr_non) (sa_nil)))) (sa_nil))) (sa_nil)))))) (sa_nil)))))))
theorem ok__law_bent (hX : K.In h) (hG : h.Ns mainGlobals mg) (hc : SaysP fa fn K) : ∀ n, FnC P w K mg base (4 + n) (He.ga K "_law_bent") 2 [] (F__law_bent n)
  | 0 => FnC.stuck
  | n + 1 => by
    have q__law_draw := He.glo_ok hX hG (hc.fact 1 (f := fun K => (He.Fa.glo "_law_draw").ok K) rfl)
    have k__law_draw : PySem.W.keepIn K (.ref (He.ga K "_law_draw")) = true := hc.fact 44 (f := fun K => (He.Fa.keep "_law_draw").ok K) rfl
    have q__law_bent := He.glo_ok hX hG (hc.fact 4 (f := fun K => (He.Fa.glo "_law_bent").ok K) rfl)
    have k__law_bent : PySem.W.keepIn K (.ref (He.ga K "_law_bent")) = true := hc.fact 47 (f := fun K => (He.Fa.keep "_law_bent").ok K) rfl
    have q__law_pick := He.glo_ok hX hG (hc.fact 2 (f := fun K => (He.Fa.glo "_law_pick").ok K) rfl)
    have k__law_pick : PySem.W.keepIn K (.ref (He.ga K "_law_pick")) = true := hc.fact 45 (f := fun K => (He.Fa.keep "_law_pick").ok K) rfl
    have q__law_odd := He.glo_ok hX hG (hc.fact 3 (f := fun K => (He.Fa.glo "_law_odd").ok K) rfl)
    have k__law_odd : PySem.W.keepIn K (.ref (He.ga K "_law_odd")) = true := hc.fact 46 (f := fun K => (He.Fa.keep "_law_odd").ok K) rfl
    have z_tuple := He.free_ok hX hG (hc.fact 32 (f := fun K => (He.Fa.free "tuple").ok K) rfl)
    have z_list := He.free_ok hX hG (hc.fact 29 (f := fun K => (He.Fa.free "list").ok K) rfl)
    have z_isinstance := He.free_ok hX hG (hc.fact 33 (f := fun K => (He.Fa.free "isinstance").ok K) rfl)
    have z_len := He.free_ok hX hG (hc.fact 30 (f := fun K => (He.Fa.free "len").ok K) rfl)
    have z_dict := He.free_ok hX hG (hc.fact 34 (f := fun K => (He.Fa.free "dict").ok K) rfl)
    have z_int := He.free_ok hX hG (hc.fact 35 (f := fun K => (He.Fa.free "int").ok K) rfl)
    have z_bool := He.free_ok hX hG (hc.fact 36 (f := fun K => (He.Fa.free "bool").ok K) rfl)
    have o__law_draw := ok__law_draw (P := P) (w := w) (base := base) hX hG hc
    have o__law_odd := ok__law_odd (P := P) (w := w) (base := base) hX hG hc
    have o__law_pick := ok__law_pick (P := P) (w := w) (base := base) hX hG hc
    have hrec := ok__law_bent hX hG hc n
    obtain ⟨fd, F⟩ := hc.def_ 4 (d := d__law_bent) rfl
    refine fn_p F sc__law_bent rfl (fun _ _ _ _ _ _ us hl => match us, hl with | [_, _], _ => rfl) (fun cdv A outer s H Ee E hr hg tk => ?_)
    have hN := sc__law_bent.nd
    have hu := hu_of hr
    have hq := hq_of hr
    have hi := hi_of hr
    have hv := hv_of hr
    exact ss_cons (ss_if (PW.pt (sw_and (st_B (sr_b2 cl_isi (by rfl) z_isinstance PyProof.Rows.boot_isinstance (sr_v 1) (sr_tup (sa_cons (sr_ty (by rfl) z_list PyProof.Rows.boot_list) (sa_cons (sr_ty (by rfl) z_tuple PyProof.Rows.boot_tuple) (sa_nil)))))) (sw_and (st_cmp ob_gt (sr_b1 cl_len (by rfl) z_len boot_len (sr_v 1)) (sr_int) (by rfl)) (sw_and1 (st_cmp ob_gt (sr_call o__law_draw (hr.mono (by first | decide | exact Nat.le_refl _ | exact Nat.le_trans (by decide) (Nat.le_add_right _ _))) hg tk (by rfl) q__law_draw k__law_draw (sa_cons (sr_v 0) (sa_cons (sr_int) (sa_nil)))) (sr_int) (by rfl)))))) (ss_cons (ss_par 2 3 rfl hN (sr_call o__law_draw (hr.mono (by first | decide | exact Nat.le_refl _ | exact Nat.le_trans (by decide) (Nat.le_add_right _ _))) hg tk (by rfl) q__law_draw k__law_draw (sa_cons (sr_v 0) (sa_cons (sr_b1 cl_len (by rfl) z_len boot_len (sr_v 1)) (sa_nil)))) (sr_call o__law_draw (hr.mono (by first | decide | exact Nat.le_refl _ | exact Nat.le_trans (by decide) (Nat.le_add_right _ _))) hg tk (by rfl) q__law_draw k__law_draw (sa_cons (sr_v 0) (sa_cons (sr_int) (sa_nil)))))
          (ss_cons (ss_par 4 5 rfl hN (sr_sl (sr_v 1) (sp_no) (sp_pt (sr_v 2))) (sr_sl (sr_v 1) (sp_pt (sr_op os_add (sr_v 2) (sr_int))) (sp_no)))
          (ss_cons (ss_if (st_cmp ob_lt (sr_v 3) (sr_int) (by rfl)) (ss_cons (ss_set 6 hN (sr_lst (sa_cons (sr_call hrec (hr.mono (by first | decide | exact Nat.le_refl _ | exact Nat.le_trans (by decide) (Nat.le_add_right _ _))) hg tk (by rfl) q__law_bent k__law_bent (sa_cons (sr_v 0) (sa_cons (sr_ix hu (sr_v 1) (sr_v 2)) (sa_nil)))) (sa_nil))))
          (ss_one (ss_ret (sr_op os_add (sr_op os_add (sr_v 4) (sr_if (st_B (sr_b2 cl_isi (by rfl) z_isinstance PyProof.Rows.boot_isinstance (sr_v 1) (sr_ty (by rfl) z_list PyProof.Rows.boot_list))) (sr_v 6) (sr_t1 cl_tuple (by rfl) z_tuple PyProof.Rows.boot_tuple (sr_v 6)))) (sr_v 5))))) (ss_nil))
          (ss_cons (ss_if (st_cmp (ob_eq hq) (sr_v 3) (sr_int) (by rfl)) (ss_one (ss_ret (sr_op os_add (sr_v 4) (sr_v 5)))) (ss_nil))
          (ss_one (ss_ret (sr_if (st_cmp (ob_eq hq) (sr_v 3) (sr_int) (by rfl)) (sr_op os_add (sr_sl (sr_v 1) (sp_no) (sp_pt (sr_op os_add (sr_v 2) (sr_int)))) (sr_sl (sr_v 1) (sp_pt (sr_v 2)) (sp_no))) (sr_op os_add (sr_op os_add (sr_v 4) (sr_rev (sr_sl (sr_v 1) (sp_pt (sr_v 2)) (sp_pt (sr_op os_add (sr_v 2) (sr_int)))))) (sr_sl (sr_v 5) (sp_pt (sr_int)) (sp_no)))))))))) (ss_nil))
          (ss_cons (ss_if (PW.pt (sw_and (st_B (sr_b2 cl_isi (by rfl) z_isinstance PyProof.Rows.boot_isinstance (sr_v 1) (sr_ty (by rfl) z_dict PyProof.Rows.boot_dict))) (sw_and (st_cmp ob_gt (sr_b1 cl_len (by rfl) z_len boot_len (sr_v 1)) (sr_int) (by rfl)) (sw_and1 (st_cmp ob_gt (sr_call o__law_draw (hr.mono (by first | decide | exact Nat.le_refl _ | exact Nat.le_trans (by decide) (Nat.le_add_right _ _))) hg tk (by rfl) q__law_draw k__law_draw (sa_cons (sr_v 0) (sa_cons (sr_int) (sa_nil)))) (sr_int) (by rfl)))))) (ss_cons (ss_stk)
          (ss_cons (ss_stk)
          (ss_one (ss_stk)))) (ss_nil))
          (ss_cons (ss_if (PW.pt (sw_and (st_B (sr_b2 cl_isi (by rfl) z_isinstance PyProof.Rows.boot_isinstance (sr_v 1) (sr_ty (by rfl) z_int PyProof.Rows.boot_int))) (sw_and (st_not (st_B (sr_b2 cl_isi (by rfl) z_isinstance PyProof.Rows.boot_isinstance (sr_v 1) (sr_ty (by rfl) z_bool PyProof.Rows.boot_bool)))) (sw_and1 (st_cmp ob_gt (sr_call o__law_draw (hr.mono (by first | decide | exact Nat.le_refl _ | exact Nat.le_trans (by decide) (Nat.le_add_right _ _))) hg tk (by rfl) q__law_draw k__law_draw (sa_cons (sr_v 0) (sa_cons (sr_int) (sa_nil)))) (sr_int) (by rfl)))))) (ss_one (ss_ret (sr_call o__law_pick (hr.mono (by first | decide | exact Nat.le_refl _ | exact Nat.le_trans (by decide) (Nat.le_add_right _ _))) hg tk (by rfl) q__law_pick k__law_pick (sa_cons (sr_v 0) (sa_cons (sr_lst (sa_cons (sr_op os_add (sr_v 1) (sr_int)) (sa_cons (sr_op os_sub (sr_v 1) (sr_int)) (sa_cons (sr_op os_sub (sr_int) (sr_v 1)) (sa_cons (sr_op os_mul (sr_int) (sr_v 1)) (sa_cons (sr_cmp (ob_eq hq) (sr_v 1) (sr_int) (by rfl)) (sa_cons (sr_tup (sa_cons (sr_v 1) (sa_nil))) (sa_cons (sr_non) (sa_nil))))))))) (sa_nil)))))) (ss_nil))
          (ss_one (ss_ret (sr_call o__law_odd (hr.mono (by first | decide | exact Nat.le_refl _ | exact Nat.le_trans (by decide) (Nat.le_add_right _ _))) hg tk (by rfl) q__law_odd k__law_odd (sa_cons (sr_v 0) (sa_nil)))))))
theorem ok_is_list (hX : K.In h) (hG : h.Ns mainGlobals mg) (hc : SaysP fa fn K) : FnC P w K mg base 1 (He.ga K "is_list") 1 [] F_is_list := by
  have z_tuple := He.free_ok hX hG (hc.fact 32 (f := fun K => (He.Fa.free "tuple").ok K) rfl)
  have z_list := He.free_ok hX hG (hc.fact 29 (f := fun K => (He.Fa.free "list").ok K) rfl)
  have z_isinstance := He.free_ok hX hG (hc.fact 33 (f := fun K => (He.Fa.free "isinstance").ok K) rfl)
  obtain ⟨fd, F⟩ := hc.def_ 5 (d := d_is_list) rfl
  refine fn_p F sc_is_list rfl (fun _ _ _ _ _ _ us hl => match us, hl with | [_], _ => rfl) (fun cdv A outer s H Ee E hr hg tk => ?_)
  have hN := sc_is_list.nd
  have hu := hu_of hr
  have hq := hq_of hr
  have hi := hi_of hr
  have hv := hv_of hr
  exact ss_one (ss_ret (sr_b2 cl_isi (by rfl) z_isinstance PyProof.Rows.boot_isinstance (sr_v 0) (sr_tup (sa_cons (sr_ty (by rfl) z_list PyProof.Rows.boot_list) (sa_cons (sr_ty (by rfl) z_tuple PyProof.Rows.boot_tuple) (sa_nil))))))
theorem ok_is_tuple_of (hX : K.In h) (hG : h.Ns mainGlobals mg) (hc : SaysP fa fn K) : FnC P w K mg base 1 (He.ga K "is_tuple_of") 2 [] F_is_tuple_of := by
  have z_tuple := He.free_ok hX hG (hc.fact 32 (f := fun K => (He.Fa.free "tuple").ok K) rfl)
  have z_isinstance := He.free_ok hX hG (hc.fact 33 (f := fun K => (He.Fa.free "isinstance").ok K) rfl)
  have z_len := He.free_ok hX hG (hc.fact 30 (f := fun K => (He.Fa.free "len").ok K) rfl)
  obtain ⟨fd, F⟩ := hc.def_ 6 (d := d_is_tuple_of) rfl
  refine fn_p F sc_is_tuple_of rfl (fun _ _ _ _ _ _ us hl => match us, hl with | [_, _], _ => rfl) (fun cdv A outer s H Ee E hr hg tk => ?_)
  have hN := sc_is_tuple_of.nd
  have hu := hu_of hr
  have hq := hq_of hr
  have hi := hi_of hr
  have hv := hv_of hr
  exact ss_one (ss_ret (sb_and (sb_B (sr_b2 cl_isi (by rfl) z_isinstance PyProof.Rows.boot_isinstance (sr_v 0) (sr_ty (by rfl) z_tuple PyProof.Rows.boot_tuple))) (sb_one (sr_cmp (ob_eq hq) (sr_b1 cl_len (by rfl) z_len boot_len (sr_v 0)) (sr_v 1) (by rfl)))))
theorem ok_is_integer (hX : K.In h) (hG : h.Ns mainGlobals mg) (hc : SaysP fa fn K) : FnC P w K mg base 1 (He.ga K "is_integer") 1 [] F_is_integer := by
  have z_int := He.free_ok hX hG (hc.fact 35 (f := fun K => (He.Fa.free "int").ok K) rfl)
  have z_isinstance := He.free_ok hX hG (hc.fact 33 (f := fun K => (He.Fa.free "isinstance").ok K) rfl)
  have z_bool := He.free_ok hX hG (hc.fact 36 (f := fun K => (He.Fa.free "bool").ok K) rfl)
  obtain ⟨fd, F⟩ := hc.def_ 7 (d := d_is_integer) rfl
  refine fn_p F sc_is_integer rfl (fun _ _ _ _ _ _ us hl => match us, hl with | [_], _ => rfl) (fun cdv A outer s H Ee E hr hg tk => ?_)
  have hN := sc_is_integer.nd
  have hu := hu_of hr
  have hq := hq_of hr
  have hi := hi_of hr
  have hv := hv_of hr
  exact ss_one (ss_ret (sb_and (sb_B (sr_b2 cl_isi (by rfl) z_isinstance PyProof.Rows.boot_isinstance (sr_v 0) (sr_ty (by rfl) z_int PyProof.Rows.boot_int))) (sb_one (sb_not (sb_B (sr_b2 cl_isi (by rfl) z_isinstance PyProof.Rows.boot_isinstance (sr_v 0) (sr_ty (by rfl) z_bool PyProof.Rows.boot_bool)))))))
theorem ok_divisor (hX : K.In h) (hG : h.Ns mainGlobals mg) (hc : SaysP fa fn K) : FnC P w K mg base 1 (He.ga K "divisor") 2 [] F_divisor := by
  have z_abs := He.free_ok hX hG (hc.fact 31 (f := fun K => (He.Fa.free "abs").ok K) rfl)
  obtain ⟨fd, F⟩ := hc.def_ 8 (d := d_divisor) rfl
  refine fn_p F sc_divisor rfl (fun _ _ _ _ _ _ us hl => match us, hl with | [_, _], _ => rfl) (fun cdv A outer s H Ee E hr hg tk => ?_)
  have hN := sc_divisor.nd
  have hu := hu_of hr
  have hq := hq_of hr
  have hi := hi_of hr
  have hv := hv_of hr
  exact ss_cons (ss_par 0 1 rfl hN (sr_b1 cl_abs (by rfl) z_abs PyProof.Rows.boot_abs (sr_v 0)) (sr_b1 cl_abs (by rfl) z_abs PyProof.Rows.boot_abs (sr_v 1)))
          (ss_cons (ss_while (fun st => natAt st 1 + 1) (passes_of rfl) (st_cmp ob_gt (sr_v 1) (sr_int) (by rfl)) (ss_one (ss_par 0 1 rfl hN (sr_v 1) (sr_op os_mod (sr_v 0) (sr_v 1)))))
          (ss_one (ss_ret (sr_v 0))))
theorem ok_is_fraction (hX : K.In h) (hG : h.Ns mainGlobals mg) (hc : SaysP fa fn K) : FnC P w K mg base 2 (He.ga K "is_fraction") 1 [] F_is_fraction := by
  have q_is_tuple_of := He.glo_ok hX hG (hc.fact 6 (f := fun K => (He.Fa.glo "is_tuple_of").ok K) rfl)
  have k_is_tuple_of : PySem.W.keepIn K (.ref (He.ga K "is_tuple_of")) = true := hc.fact 49 (f := fun K => (He.Fa.keep "is_tuple_of").ok K) rfl
  have q_is_integer := He.glo_ok hX hG (hc.fact 7 (f := fun K => (He.Fa.glo "is_integer").ok K) rfl)
  have k_is_integer : PySem.W.keepIn K (.ref (He.ga K "is_integer")) = true := hc.fact 50 (f := fun K => (He.Fa.keep "is_integer").ok K) rfl
  have q_divisor := He.glo_ok hX hG (hc.fact 8 (f := fun K => (He.Fa.glo "divisor").ok K) rfl)
  have k_divisor : PySem.W.keepIn K (.ref (He.ga K "divisor")) = true := hc.fact 51 (f := fun K => (He.Fa.keep "divisor").ok K) rfl
  have o_divisor := ok_divisor (P := P) (w := w) (base := base) hX hG hc
  have o_is_integer := ok_is_integer (P := P) (w := w) (base := base) hX hG hc
  have o_is_tuple_of := ok_is_tuple_of (P := P) (w := w) (base := base) hX hG hc
  obtain ⟨fd, F⟩ := hc.def_ 9 (d := d_is_fraction) rfl
  refine fn_p F sc_is_fraction rfl (fun _ _ _ _ _ _ us hl => match us, hl with | [_], _ => rfl) (fun cdv A outer s H Ee E hr hg tk => ?_)
  have hN := sc_is_fraction.nd
  have hu := hu_of hr
  have hq := hq_of hr
  have hi := hi_of hr
  have hv := hv_of hr
  exact ss_cons (ss_if (PW.pt (sw_or (st_not (st_B (sr_call o_is_tuple_of (hr.mono (by decide)) hg tk (by rfl) q_is_tuple_of k_is_tuple_of (sa_cons (sr_v 0) (sa_cons (sr_int) (sa_nil)))))) (sw_or (st_not (st_B (sr_call o_is_integer (hr.mono (by decide)) hg tk (by rfl) q_is_integer k_is_integer (sa_cons (sr_ix hu (sr_v 0) (sr_int)) (sa_nil))))) (sw_or1 (st_not (st_B (sr_call o_is_integer (hr.mono (by decide)) hg tk (by rfl) q_is_integer k_is_integer (sa_cons (sr_ix hu (sr_v 0) (sr_int)) (sa_nil))))))))) (ss_one (ss_ret (sr_bl))) (ss_nil))
          (ss_one (ss_ret (sb_and (sr_cmp ob_gt (sr_ix hu (sr_v 0) (sr_int)) (sr_int) (by rfl)) (sb_one (sr_cmp (ob_eq hq) (sr_call o_divisor (hr.mono (by decide)) hg tk (by rfl) q_divisor k_divisor (sa_cons (sr_ix hu (sr_v 0) (sr_int)) (sa_cons (sr_ix hu (sr_v 0) (sr_int)) (sa_nil)))) (sr_int) (by rfl))))))
theorem ok_is_pair (hX : K.In h) (hG : h.Ns mainGlobals mg) (hc : SaysP fa fn K) : FnC P w K mg base 3 (He.ga K "is_pair") 1 [] F_is_pair := by
  have q_is_tuple_of := He.glo_ok hX hG (hc.fact 6 (f := fun K => (He.Fa.glo "is_tuple_of").ok K) rfl)
  have k_is_tuple_of : PySem.W.keepIn K (.ref (He.ga K "is_tuple_of")) = true := hc.fact 49 (f := fun K => (He.Fa.keep "is_tuple_of").ok K) rfl
  have q_is_fraction := He.glo_ok hX hG (hc.fact 9 (f := fun K => (He.Fa.glo "is_fraction").ok K) rfl)
  have k_is_fraction : PySem.W.keepIn K (.ref (He.ga K "is_fraction")) = true := hc.fact 52 (f := fun K => (He.Fa.keep "is_fraction").ok K) rfl
  have z_all := He.free_ok hX hG (hc.fact 37 (f := fun K => (He.Fa.free "all").ok K) rfl)
  have o_is_fraction := ok_is_fraction (P := P) (w := w) (base := base) hX hG hc
  have o_is_tuple_of := ok_is_tuple_of (P := P) (w := w) (base := base) hX hG hc
  obtain ⟨fd, F⟩ := hc.def_ 10 (d := d_is_pair) rfl
  refine fn_p F sc_is_pair rfl (fun _ _ _ _ _ _ us hl => match us, hl with | [_], _ => rfl) (fun cdv A outer s H Ee E hr hg tk => ?_)
  have hN := sc_is_pair.nd
  have hu := hu_of hr
  have hq := hq_of hr
  have hi := hi_of hr
  have hv := hv_of hr
  exact ss_one (ss_ret (sb_and (sb_B (sr_call o_is_tuple_of (hr.mono (by decide)) hg tk (by rfl) q_is_tuple_of k_is_tuple_of (sa_cons (sr_v 0) (sa_cons (sr_int) (sa_nil))))) (sb_one (sb_B (sr_b1 (cl_all rfl) (by rfl) z_all PyProof.Rows.boot_all (sr_comp rfl hN (si_seq (sr_v 0)) (own := [("end", 1)]) (ts := [1]) (by refine (show BlkOk ["value", "end"] (defScope tp_is_pair) _ _ from ?_); exact ⟨rfl, by decide +kernel, by decide +kernel, by first | decide +kernel | (repeat (first | exact List.forall_mem_nil _ | refine List.forall_mem_cons.mpr ⟨by intro h; first | exact Or.inl rfl | exact Or.inr rfl | exact absurd h (by decide), ?_⟩)), by first | decide +kernel | (dsimp only; decide +kernel)⟩) (by first | decide | (dsimp only; decide)) (fun _ _ _ _ _ => sg_n 1 hN) (fun _ _ _ _ _ => sts_nil) (fun _ _ _ _ _ => sb_or (sr_cmp ob_is2 (sr_v 1) (sr_non) (by rfl)) (sb_one (sb_B (sr_call o_is_fraction (hr.mono (by decide)) hg takesF (by rfl) q_is_fraction k_is_fraction (sa_cons (sr_v 1) (sa_nil))))))))))))
theorem ok_are_pairs (hX : K.In h) (hG : h.Ns mainGlobals mg) (hc : SaysP fa fn K) : FnC P w K mg base 4 (He.ga K "are_pairs") 1 [] F_are_pairs := by
  have q_is_list := He.glo_ok hX hG (hc.fact 5 (f := fun K => (He.Fa.glo "is_list").ok K) rfl)
  have k_is_list : PySem.W.keepIn K (.ref (He.ga K "is_list")) = true := hc.fact 48 (f := fun K => (He.Fa.keep "is_list").ok K) rfl
  have q_is_pair := He.glo_ok hX hG (hc.fact 10 (f := fun K => (He.Fa.glo "is_pair").ok K) rfl)
  have k_is_pair : PySem.W.keepIn K (.ref (He.ga K "is_pair")) = true := hc.fact 53 (f := fun K => (He.Fa.keep "is_pair").ok K) rfl
  have z_len := He.free_ok hX hG (hc.fact 30 (f := fun K => (He.Fa.free "len").ok K) rfl)
  have z_all := He.free_ok hX hG (hc.fact 37 (f := fun K => (He.Fa.free "all").ok K) rfl)
  obtain ⟨t_MAX_PLAYERS, z_MAX_PLAYERS⟩ := He.int_ok hX hG (hc.fact 42 (f := fun K => (He.Fa.int "MAX_PLAYERS" 3).ok K) rfl)
  have o_is_list := ok_is_list (P := P) (w := w) (base := base) hX hG hc
  have o_is_pair := ok_is_pair (P := P) (w := w) (base := base) hX hG hc
  obtain ⟨fd, F⟩ := hc.def_ 11 (d := d_are_pairs) rfl
  refine fn_p F sc_are_pairs rfl (fun _ _ _ _ _ _ us hl => match us, hl with | [_], _ => rfl) (fun cdv A outer s H Ee E hr hg tk => ?_)
  have hN := sc_are_pairs.nd
  have hu := hu_of hr
  have hq := hq_of hr
  have hi := hi_of hr
  have hv := hv_of hr
  exact ss_one (ss_ret (sb_and (sb_B (sr_call o_is_list (hr.mono (by decide)) hg tk (by rfl) q_is_list k_is_list (sa_cons (sr_v 0) (sa_nil)))) (sb_and (sr_ch ob_le ob_le (sr_int) (sr_b1 cl_len (by rfl) z_len boot_len (sr_v 0)) (sr_gI (by rfl) z_MAX_PLAYERS) (by with_unfolding_all rfl)) (sb_one (sb_B (sr_b1 (cl_all rfl) (by rfl) z_all PyProof.Rows.boot_all (sr_compO rfl hN (sr_v 0) (own := [("pair", 1)]) (ts := [1]) (by refine (show BlkOk ["value", "pair"] (defScope tp_are_pairs) _ _ from ?_); exact ⟨rfl, by decide +kernel, by decide +kernel, by first | decide +kernel | (repeat (first | exact List.forall_mem_nil _ | refine List.forall_mem_cons.mpr ⟨by intro h; first | exact Or.inl rfl | exact Or.inr rfl | exact absurd h (by decide), ?_⟩)), by first | decide +kernel | (dsimp only; decide +kernel)⟩) (by first | decide | (dsimp only; decide)) (fun _ _ _ _ _ => sg_n 1 hN) (fun _ _ _ _ _ => sts_nil) (fun _ _ _ _ _ => sr_call o_is_pair (hr.mono (by decide)) hg takesF (by rfl) q_is_pair k_is_pair (sa_cons (sr_v 1) (sa_nil))))))))))
theorem ok_Wishes___init__ (hX : K.In h) (hG : h.Ns mainGlobals mg) (hc : SaysP fa fn K) : FnC P w K mg base 5 (He.ma K (He.ga K "Wishes") "__init__") 2 [] F_Wishes___init__ := by
  have q_are_pairs := He.glo_ok hX hG (hc.fact 11 (f := fun K => (He.Fa.glo "are_pairs").ok K) rfl)
  have k_are_pairs : PySem.W.keepIn K (.ref (He.ga K "are_pairs")) = true := hc.fact 54 (f := fun K => (He.Fa.keep "are_pairs").ok K) rfl
  have q_InvalidWishes := He.glo_ok hX hG (hc.fact 27 (f := fun K => (He.Fa.glo "InvalidWishes").ok K) rfl)
  have z_tuple := He.free_ok hX hG (hc.fact 32 (f := fun K => (He.Fa.free "tuple").ok K) rfl)
  have w_cls_Wishes : (He.Fa.cls "Wishes").ok K = true := hc.fact 69 (f := fun K => (He.Fa.cls "Wishes").ok K) rfl
  have w_noat_Wishes_kept : (He.Fa.noat "Wishes" "kept").ok K = true := hc.fact 70 (f := fun K => (He.Fa.noat "Wishes" "kept").ok K) rfl
  have x_InvalidWishes := xc_InvalidWishes (P := P) (w := w) (base := base) hX hG hc
  have o_are_pairs := ok_are_pairs (P := P) (w := w) (base := base) hX hG hc
  obtain ⟨fd, F⟩ := hc.def_ 12 (d := d_Wishes___init__) rfl
  refine fn_p F sc_Wishes___init__ rfl (fun _ _ _ _ _ _ us hl => match us, hl with | [_, _], _ => rfl) (fun cdv A outer s H Ee E hr hg tk => ?_)
  have hN := sc_Wishes___init__.nd
  have hu := hu_of hr
  have hq := hq_of hr
  have hi := hi_of hr
  have hv := hv_of hr
  exact ss_cons (ss_if (st_not (st_B (sr_call o_are_pairs (hr.mono (by decide)) hg tk (by rfl) q_are_pairs k_are_pairs (sa_cons (sr_v 1) (sa_nil))))) (ss_one (ss_raise x_InvalidWishes (hr.mono (by decide)) rfl tk (by rfl) q_InvalidWishes (sa_cons (sr_v 1) (sa_nil)))) (ss_nil))
          (ss_one (ss_fld (List.forall_mem_cons.mpr ⟨⟨He.cls_ok w_cls_Wishes, He.noat_ok w_noat_Wishes_kept⟩, (List.forall_mem_nil _)⟩) (sr_v 0) (sr_t1 cl_tuple (by rfl) z_tuple PyProof.Rows.boot_tuple (sr_v 1))))
theorem ok_Wishes___eq__ (hX : K.In h) (hG : h.Ns mainGlobals mg) (hc : SaysP fa fn K) : FnC P w K mg base 1 (He.ma K (He.ga K "Wishes") "__eq__") 2 [] F_Wishes___eq__ := by
  have q_Wishes := He.glo_ok hX hG (hc.fact 26 (f := fun K => (He.Fa.glo "Wishes").ok K) rfl)
  have z_isinstance := He.free_ok hX hG (hc.fact 33 (f := fun K => (He.Fa.free "isinstance").ok K) rfl)
  have w_cls_Wishes : (He.Fa.cls "Wishes").ok K = true := hc.fact 69 (f := fun K => (He.Fa.cls "Wishes").ok K) rfl
  have w_isiX : isiXB isiX K = true := hc.fact 71 (f := fun K => isiXB isiX K) rfl
  have w_isiT : isiTB isiT K = true := hc.fact 72 (f := fun K => isiTB isiT K) rfl
  have w_isiD : isiDAB isiD K = true := hc.fact 73 (f := fun K => isiDAB isiD K) rfl
  have w_noat_Wishes_kept : (He.Fa.noat "Wishes" "kept").ok K = true := hc.fact 70 (f := fun K => (He.Fa.noat "Wishes" "kept").ok K) rfl
  obtain ⟨fd, F⟩ := hc.def_ 13 (d := d_Wishes___eq__) rfl
  refine fn_p F sc_Wishes___eq__ rfl (fun _ _ _ _ _ _ us hl => match us, hl with | [_, _], _ => rfl) (fun cdv A outer s H Ee E hr hg tk => ?_)
  have hN := sc_Wishes___eq__.nd
  have hu := hu_of hr
  have hq := hq_of hr
  have hi := hi_of hr
  have hv := hv_of hr
  exact ss_one (ss_ret (sb_and (sb_B (sr_isiX (isiXB_ok w_isiX) (isiTB_ok w_isiT (List.forall_mem_cons.mpr ⟨He.cls_ok w_cls_Wishes, (List.forall_mem_cons.mpr ⟨He.cls_ok w_cls_Wishes, (List.forall_mem_cons.mpr ⟨He.cls_ok w_cls_Wishes, (List.forall_mem_cons.mpr ⟨He.cls_ok w_cls_Wishes, (List.forall_mem_cons.mpr ⟨He.cls_ok w_cls_Wishes, (List.forall_mem_cons.mpr ⟨He.cls_ok w_cls_Wishes, (List.forall_mem_cons.mpr ⟨He.cls_ok w_cls_Wishes, (List.forall_mem_cons.mpr ⟨He.cls_ok w_cls_Wishes, (List.forall_mem_nil _)⟩)⟩)⟩)⟩)⟩)⟩)⟩)⟩)) (isiDAB_ok w_isiD) (by rfl) z_isinstance PyProof.Rows.boot_isinstance (sr_v 1) (sr_cls (by rfl) q_Wishes))) (sb_one (sr_cmp (ob_eq hq) (sr_fld (List.forall_mem_cons.mpr ⟨⟨He.cls_ok w_cls_Wishes, He.noat_ok w_noat_Wishes_kept⟩, (List.forall_mem_nil _)⟩) (sr_v 0)) (sr_fld (List.forall_mem_cons.mpr ⟨⟨He.cls_ok w_cls_Wishes, He.noat_ok w_noat_Wishes_kept⟩, (List.forall_mem_nil _)⟩) (sr_v 1)) (by rfl)))))
theorem ok_Wishes_pairs (hX : K.In h) (hG : h.Ns mainGlobals mg) (hc : SaysP fa fn K) : FnC P w K mg base 1 (recG K "property" "Wishes" "pairs") 1 [] F_Wishes_pairs := by
  have w_cls_Wishes : (He.Fa.cls "Wishes").ok K = true := hc.fact 69 (f := fun K => (He.Fa.cls "Wishes").ok K) rfl
  have w_noat_Wishes_kept : (He.Fa.noat "Wishes" "kept").ok K = true := hc.fact 70 (f := fun K => (He.Fa.noat "Wishes" "kept").ok K) rfl
  obtain ⟨fd, F⟩ := hc.def_ 14 (d := d_Wishes_pairs) rfl
  refine fn_p F sc_Wishes_pairs rfl (fun _ _ _ _ _ _ us hl => match us, hl with | [_], _ => rfl) (fun cdv A outer s H Ee E hr hg tk => ?_)
  have hN := sc_Wishes_pairs.nd
  have hu := hu_of hr
  have hq := hq_of hr
  have hi := hi_of hr
  have hv := hv_of hr
  exact ss_one (ss_ret (sr_fld (List.forall_mem_cons.mpr ⟨⟨He.cls_ok w_cls_Wishes, He.noat_ok w_noat_Wishes_kept⟩, (List.forall_mem_nil _)⟩) (sr_v 0)))
theorem ok__law_copied (hX : K.In h) (hG : h.Ns mainGlobals mg) (hc : SaysP fa fn K) : FnC P w K mg base 7 (He.ga K "_law_copied") 1 [] F__law_copied := by
  have q_Wishes := He.glo_ok hX hG (hc.fact 26 (f := fun K => (He.Fa.glo "Wishes").ok K) rfl)
  have z_list := He.free_ok hX hG (hc.fact 29 (f := fun K => (He.Fa.free "list").ok K) rfl)
  have z_repr := He.free_ok hX hG (hc.fact 38 (f := fun K => (He.Fa.free "repr").ok K) rfl)
  have z_tuple := He.free_ok hX hG (hc.fact 32 (f := fun K => (He.Fa.free "tuple").ok K) rfl)
  have w_mkr_Wishes : (He.Fa.mkr "Wishes").ok K = true := hc.fact 74 (f := fun K => (He.Fa.mkr "Wishes").ok K) rfl
  have w_cls_Wishes : (He.Fa.cls "Wishes").ok K = true := hc.fact 69 (f := fun K => (He.Fa.cls "Wishes").ok K) rfl
  have w_prop_Wishes_pairs : propB "Wishes" "pairs" K = true := hc.fact 75 (f := fun K => propB "Wishes" "pairs" K) rfl
  have w_sys : sysB K = true := hc.fact 76 (f := fun K => sysB K) rfl
  have w_meth_Wishes___eq__ : (He.Fa.meth "Wishes" "__eq__").ok K = true := hc.fact 77 (f := fun K => (He.Fa.meth "Wishes" "__eq__").ok K) rfl
  have o_Wishes___eq__ := ok_Wishes___eq__ (P := P) (w := w) (base := base) hX hG hc
  have o_Wishes___init__ := ok_Wishes___init__ (P := P) (w := w) (base := base) hX hG hc
  have o_Wishes_pairs := ok_Wishes_pairs (P := P) (w := w) (base := base) hX hG hc
  obtain ⟨fd, F⟩ := hc.def_ 15 (d := d__law_copied) rfl
  refine fn_p F sc__law_copied rfl (fun _ _ _ _ _ _ us hl => match us, hl with | [_], _ => rfl) (fun cdv A outer s H Ee E hr hg tk => ?_)
  have hN := sc__law_copied.nd
  have hu := hu_of hr
  have hq := hq_of hr
  have hi := hi_of hr
  have hv := hv_of hr
  exact ss_cons (ss_set 1 hN (sr_new (sr_t1 cl_list (by rfl) z_list PyProof.Rows.boot_list (sr_v 0))))
          (ss_cons (ss_set 2 hN (sr_fz (sr_make (k := 5) (He.mkr_ok w_mkr_Wishes) o_Wishes___init__ (hr.mono (by decide)) hg tk (by rfl) q_Wishes (sa_cons (sr_v 1) (sa_nil)))))
          (ss_cons (ss_expr (sr_mut mu_app PySem.F.slot_list_append PySem.F.type_list_append (sr_v 1) (sa_cons (sr_tup (sa_cons (sr_non) (sa_cons (sr_non) (sa_nil)))) (sa_nil))))
          (ss_cons (ss_putL (sr_v 1) (sr_int) (sr_non))
          (ss_one (ss_ret (sb_and (sr_cmpE (neg := false) (k := 1) (ob_eq hq) (tab_cons ⟨_, (He.meth_ok w_meth_Wishes___eq__).at_, (He.meth_ok w_meth_Wishes___eq__).fn, (o_Wishes___eq__.mono (by decide)), fun h => absurd h (by decide)⟩ (tab_nil)) (hr.mono (by decide)) hg (sr_b1 (cl_repr w_sys hg hv) (by rfl) z_repr PyProof.Rows.boot_repr (sr_prop (k := 1) (tab_cons ⟨He.cls_ok w_cls_Wishes, _, _, prop_ok w_prop_Wishes_pairs, (o_Wishes_pairs.mono (by decide))⟩ (tab_nil)) (hr.mono (by decide)) hg (sr_v 2))) (sr_b1 (cl_repr w_sys hg hv) (by rfl) z_repr PyProof.Rows.boot_repr (sr_t1 cl_tuple (by rfl) z_tuple PyProof.Rows.boot_tuple (sr_v 0))) (by rfl)) (sb_one (sr_cmpE (neg := false) (k := 1) (ob_eq hq) (tab_cons ⟨_, (He.meth_ok w_meth_Wishes___eq__).at_, (He.meth_ok w_meth_Wishes___eq__).fn, (o_Wishes___eq__.mono (by decide)), fun h => absurd h (by decide)⟩ (tab_nil)) (hr.mono (by decide)) hg (sr_v 2) (sr_fz (sr_make (k := 5) (He.mkr_ok w_mkr_Wishes) o_Wishes___init__ (hr.mono (by decide)) hg tk (by rfl) q_Wishes (sa_cons (sr_v 0) (sa_nil)))) (by rfl)))))))))
theorem ok__law_fraction (hX : K.In h) (hG : h.Ns mainGlobals mg) (hc : SaysP fa fn K) : FnC P w K mg base 1 (He.ga K "_law_fraction") 2 [] F__law_fraction := by
  have z_abs := He.free_ok hX hG (hc.fact 31 (f := fun K => (He.Fa.free "abs").ok K) rfl)
  obtain ⟨fd, F⟩ := hc.def_ 16 (d := d__law_fraction) rfl
  refine fn_p F sc__law_fraction rfl (fun _ _ _ _ _ _ us hl => match us, hl with | [_, _], _ => rfl) (fun cdv A outer s H Ee E hr hg tk => ?_)
  have hN := sc__law_fraction.nd
  have hu := hu_of hr
  have hq := hq_of hr
  have hi := hi_of hr
  have hv := hv_of hr
  exact ss_cons (ss_par 2 3 rfl hN (sr_b1 cl_abs (by rfl) z_abs PyProof.Rows.boot_abs (sr_v 0)) (sr_v 1))
          (ss_cons (ss_while (fun st => natAt st 3 + 1) (passes_of rfl) (st_cmp ob_gt (sr_v 3) (sr_int) (by rfl)) (ss_one (ss_par 2 3 rfl hN (sr_v 3) (sr_op os_mod (sr_v 2) (sr_v 3)))))
          (ss_one (ss_ret (sr_tup (sa_cons (sr_op os_fdv (sr_v 0) (sr_v 2)) (sa_cons (sr_op os_fdv (sr_v 1) (sr_v 2)) (sa_nil)))))))
theorem ok__law_integer (hX : K.In h) (hG : h.Ns mainGlobals mg) (hc : SaysP fa fn K) : FnC P w K mg base 2 (He.ga K "_law_integer") 2 [] F__law_integer := by
  have q__law_draw := He.glo_ok hX hG (hc.fact 1 (f := fun K => (He.Fa.glo "_law_draw").ok K) rfl)
  have k__law_draw : PySem.W.keepIn K (.ref (He.ga K "_law_draw")) = true := hc.fact 44 (f := fun K => (He.Fa.keep "_law_draw").ok K) rfl
  have o__law_draw := ok__law_draw (P := P) (w := w) (base := base) hX hG hc
  obtain ⟨fd, F⟩ := hc.def_ 17 (d := d__law_integer) rfl
  refine fn_p F sc__law_integer rfl (fun _ _ _ _ _ _ us hl => match us, hl with | [_, _], _ => rfl) (fun cdv A outer s H Ee E hr hg tk => ?_)
  have hN := sc__law_integer.nd
  have hu := hu_of hr
  have hq := hq_of hr
  have hi := hi_of hr
  have hv := hv_of hr
  exact ss_one (ss_ret (sr_op os_sub (sr_call o__law_draw (hr.mono (by decide)) hg tk (by rfl) q__law_draw k__law_draw (sa_cons (sr_v 0) (sa_cons (sr_op os_add (sr_op os_mul (sr_int) (sr_v 1)) (sr_int)) (sa_nil)))) (sr_v 1)))
theorem ok__law_value (hX : K.In h) (hG : h.Ns mainGlobals mg) (hc : SaysP fa fn K) : FnC P w K mg base 3 (He.ga K "_law_value") 1 [] F__law_value := by
  have q__law_pick := He.glo_ok hX hG (hc.fact 2 (f := fun K => (He.Fa.glo "_law_pick").ok K) rfl)
  have k__law_pick : PySem.W.keepIn K (.ref (He.ga K "_law_pick")) = true := hc.fact 45 (f := fun K => (He.Fa.keep "_law_pick").ok K) rfl
  have q__law_fraction := He.glo_ok hX hG (hc.fact 13 (f := fun K => (He.Fa.glo "_law_fraction").ok K) rfl)
  have k__law_fraction : PySem.W.keepIn K (.ref (He.ga K "_law_fraction")) = true := hc.fact 56 (f := fun K => (He.Fa.keep "_law_fraction").ok K) rfl
  have q__law_draw := He.glo_ok hX hG (hc.fact 1 (f := fun K => (He.Fa.glo "_law_draw").ok K) rfl)
  have k__law_draw : PySem.W.keepIn K (.ref (He.ga K "_law_draw")) = true := hc.fact 44 (f := fun K => (He.Fa.keep "_law_draw").ok K) rfl
  have q__law_integer := He.glo_ok hX hG (hc.fact 14 (f := fun K => (He.Fa.glo "_law_integer").ok K) rfl)
  have k__law_integer : PySem.W.keepIn K (.ref (He.ga K "_law_integer")) = true := hc.fact 57 (f := fun K => (He.Fa.keep "_law_integer").ok K) rfl
  have o__law_draw := ok__law_draw (P := P) (w := w) (base := base) hX hG hc
  have o__law_fraction := ok__law_fraction (P := P) (w := w) (base := base) hX hG hc
  have o__law_integer := ok__law_integer (P := P) (w := w) (base := base) hX hG hc
  have o__law_pick := ok__law_pick (P := P) (w := w) (base := base) hX hG hc
  obtain ⟨fd, F⟩ := hc.def_ 18 (d := d__law_value) rfl
  refine fn_p F sc__law_value rfl (fun _ _ _ _ _ _ us hl => match us, hl with | [_], _ => rfl) (fun cdv A outer s H Ee E hr hg tk => ?_)
  have hN := sc__law_value.nd
  have hu := hu_of hr
  have hq := hq_of hr
  have hi := hi_of hr
  have hv := hv_of hr
  exact ss_cons (ss_set 1 hN (sr_call o__law_pick (hr.mono (by decide)) hg tk (by rfl) q__law_pick k__law_pick (sa_cons (sr_v 0) (sa_cons (sr_lst (sa_cons (sr_int) (sa_cons (sr_int) (sa_cons (sr_int) (sa_cons (sr_op os_pow (sr_int) (sr_int)) (sa_cons (sr_op os_pow (sr_int) (sr_int)) (sa_nil))))))) (sa_nil)))))
          (ss_one (ss_ret (sr_call o__law_pick (hr.mono (by decide)) hg tk (by rfl) q__law_pick k__law_pick (sa_cons (sr_v 0) (sa_cons (sr_lst (sa_cons (sr_non) (sa_cons (sr_call o__law_fraction (hr.mono (by decide)) hg tk (by rfl) q__law_fraction k__law_fraction (sa_cons (sr_call o__law_integer (hr.mono (by decide)) hg tk (by rfl) q__law_integer k__law_integer (sa_cons (sr_v 0) (sa_cons (sr_v 1) (sa_nil)))) (sa_cons (sr_op os_add (sr_int) (sr_call o__law_draw (hr.mono (by decide)) hg tk (by rfl) q__law_draw k__law_draw (sa_cons (sr_v 0) (sa_cons (sr_v 1) (sa_nil))))) (sa_nil)))) (sa_cons (sr_tup (sa_cons (sr_int) (sa_cons (sr_int) (sa_nil)))) (sa_nil))))) (sa_nil))))))
theorem ok__law_is_value (hX : K.In h) (hG : h.Ns mainGlobals mg) (hc : SaysP fa fn K) : FnC P w K mg base 2 (He.ga K "_law_is_value") 1 [] F__law_is_value := by
  have q__law_fraction := He.glo_ok hX hG (hc.fact 13 (f := fun K => (He.Fa.glo "_law_fraction").ok K) rfl)
  have k__law_fraction : PySem.W.keepIn K (.ref (He.ga K "_law_fraction")) = true := hc.fact 56 (f := fun K => (He.Fa.keep "_law_fraction").ok K) rfl
  have z_tuple := He.free_ok hX hG (hc.fact 32 (f := fun K => (He.Fa.free "tuple").ok K) rfl)
  have z_isinstance := He.free_ok hX hG (hc.fact 33 (f := fun K => (He.Fa.free "isinstance").ok K) rfl)
  have z_len := He.free_ok hX hG (hc.fact 30 (f := fun K => (He.Fa.free "len").ok K) rfl)
  have z_int := He.free_ok hX hG (hc.fact 35 (f := fun K => (He.Fa.free "int").ok K) rfl)
  have z_bool := He.free_ok hX hG (hc.fact 36 (f := fun K => (He.Fa.free "bool").ok K) rfl)
  have o__law_fraction := ok__law_fraction (P := P) (w := w) (base := base) hX hG hc
  obtain ⟨fd, F⟩ := hc.def_ 19 (d := d__law_is_value) rfl
  refine fn_p F sc__law_is_value rfl (fun _ _ _ _ _ _ us hl => match us, hl with | [_], _ => rfl) (fun cdv A outer s H Ee E hr hg tk => ?_)
  have hN := sc__law_is_value.nd
  have hu := hu_of hr
  have hq := hq_of hr
  have hi := hi_of hr
  have hv := hv_of hr
  exact ss_cons (ss_if (PW.pt (sw_or (st_not (st_B (sr_b2 cl_isi (by rfl) z_isinstance PyProof.Rows.boot_isinstance (sr_v 0) (sr_ty (by rfl) z_tuple PyProof.Rows.boot_tuple)))) (sw_or1 (st_cmp (ob_ne hq) (sr_b1 cl_len (by rfl) z_len boot_len (sr_v 0)) (sr_int) (by rfl))))) (ss_one (ss_ret (sr_bl))) (ss_nil))
          (ss_cons (ss_if (st_cmp (ob_ne hq) (sr_comp rfl hN (si_seq (sr_v 0)) (own := [("_law_one", 1)]) (ts := [1]) (by refine (show BlkOk ["_law_value_here", "_law_one"] (defScope tp__law_is_value) _ _ from ?_); exact ⟨rfl, by decide +kernel, by decide +kernel, by first | decide +kernel | (repeat (first | exact List.forall_mem_nil _ | refine List.forall_mem_cons.mpr ⟨by intro h; first | exact Or.inl rfl | exact Or.inr rfl | exact absurd h (by decide), ?_⟩)), by first | decide +kernel | (dsimp only; decide +kernel)⟩) (by first | decide | (dsimp only; decide)) (fun _ _ _ _ _ => sg_n 1 hN) (fun _ _ _ _ _ => sts_one (PW.pt (sw_or (st_not (st_B (sr_b2 cl_isi (by rfl) z_isinstance PyProof.Rows.boot_isinstance (sr_v 1) (sr_ty (by rfl) z_int PyProof.Rows.boot_int)))) (sw_or1 (st_B (sr_b2 cl_isi (by rfl) z_isinstance PyProof.Rows.boot_isinstance (sr_v 1) (sr_ty (by rfl) z_bool PyProof.Rows.boot_bool))))))) (fun _ _ _ _ _ => sr_v 1)) (sr_lst (sa_nil)) (by rfl)) (ss_one (ss_ret (sr_bl))) (ss_nil))
          (ss_one (ss_ret (sb_and (sr_cmp ob_gt (sr_ix hu (sr_v 0) (sr_int)) (sr_int) (by rfl)) (sb_one (sr_cmp (ob_eq hq) (sr_call o__law_fraction (hr.mono (by decide)) hg tk (by rfl) q__law_fraction k__law_fraction (sa_cons (sr_ix hu (sr_v 0) (sr_int)) (sa_cons (sr_ix hu (sr_v 0) (sr_int)) (sa_nil)))) (sr_v 0) (by rfl)))))))
theorem ok__law_are_duos (hX : K.In h) (hG : h.Ns mainGlobals mg) (hc : SaysP fa fn K) : FnC P w K mg base 3 (He.ga K "_law_are_duos") 1 [] F__law_are_duos := by
  have q__law_is_value := He.glo_ok hX hG (hc.fact 16 (f := fun K => (He.Fa.glo "_law_is_value").ok K) rfl)
  have k__law_is_value : PySem.W.keepIn K (.ref (He.ga K "_law_is_value")) = true := hc.fact 59 (f := fun K => (He.Fa.keep "_law_is_value").ok K) rfl
  have z_tuple := He.free_ok hX hG (hc.fact 32 (f := fun K => (He.Fa.free "tuple").ok K) rfl)
  have z_list := He.free_ok hX hG (hc.fact 29 (f := fun K => (He.Fa.free "list").ok K) rfl)
  have z_isinstance := He.free_ok hX hG (hc.fact 33 (f := fun K => (He.Fa.free "isinstance").ok K) rfl)
  have z_len := He.free_ok hX hG (hc.fact 30 (f := fun K => (He.Fa.free "len").ok K) rfl)
  have o__law_is_value := ok__law_is_value (P := P) (w := w) (base := base) hX hG hc
  obtain ⟨fd, F⟩ := hc.def_ 20 (d := d__law_are_duos) rfl
  refine fn_p F sc__law_are_duos rfl (fun _ _ _ _ _ _ us hl => match us, hl with | [_], _ => rfl) (fun cdv A outer s H Ee E hr hg tk => ?_)
  have hN := sc__law_are_duos.nd
  have hu := hu_of hr
  have hq := hq_of hr
  have hi := hi_of hr
  have hv := hv_of hr
  exact ss_cons (ss_if (PW.pt (sw_or (st_not (st_B (sr_b2 cl_isi (by rfl) z_isinstance PyProof.Rows.boot_isinstance (sr_v 0) (sr_tup (sa_cons (sr_ty (by rfl) z_list PyProof.Rows.boot_list) (sa_cons (sr_ty (by rfl) z_tuple PyProof.Rows.boot_tuple) (sa_nil))))))) (sw_or1 (st_not (st_ch ob_lt ob_lt (sr_int) (sr_b1 cl_len (by rfl) z_len boot_len (sr_v 0)) (sr_int) (by with_unfolding_all rfl)))))) (ss_one (ss_ret (sr_bl))) (ss_nil))
          (ss_cons (ss_for (passes_of rfl) rfl (si_seq (sr_v 0)) (sg_n 1 hN) (ss_cons (ss_if (PW.pt (sw_or (st_not (st_B (sr_b2 cl_isi (by rfl) z_isinstance PyProof.Rows.boot_isinstance (sr_v 1) (sr_ty (by rfl) z_tuple PyProof.Rows.boot_tuple)))) (sw_or1 (st_cmp (ob_ne hq) (sr_b1 cl_len (by rfl) z_len boot_len (sr_v 1)) (sr_int) (by rfl))))) (ss_one (ss_ret (sr_bl))) (ss_nil))
          (ss_one (ss_if (st_cmp (ob_ne hq) (sr_comp rfl hN (si_seq (sr_v 1)) (own := [("_law_end", 2)]) (ts := [2]) (by refine (show BlkOk ["_law_value_here", "_law_one", "_law_end"] (defScope tp__law_are_duos) _ _ from ?_); exact ⟨rfl, by decide +kernel, by decide +kernel, by first | decide +kernel | (repeat (first | exact List.forall_mem_nil _ | refine List.forall_mem_cons.mpr ⟨by intro h; first | exact Or.inl rfl | exact Or.inr rfl | exact absurd h (by decide), ?_⟩)), by first | decide +kernel | (dsimp only; decide +kernel)⟩) (by first | decide | (dsimp only; decide)) (fun _ _ _ _ _ => sg_n 2 hN) (fun _ _ _ _ _ => sts_one (PW.pt (sw_and (st_cmp ob_isnot2 (sr_v 2) (sr_non) (by rfl)) (sw_and1 (st_not (st_B (sr_call o__law_is_value (hr.mono (by decide)) hg takesF (by rfl) q__law_is_value k__law_is_value (sa_cons (sr_v 2) (sa_nil))))))))) (fun _ _ _ _ _ => sr_v 2)) (sr_lst (sa_nil)) (by rfl)) (ss_one (ss_ret (sr_bl))) (ss_nil)))))
          (ss_one (ss_ret (sr_bl))))
theorem ok__law_made (hX : K.In h) (hG : h.Ns mainGlobals mg) (hc : SaysP fa fn K) : FnC P w K mg base 7 (He.ga K "_law_made") 1 [] F__law_made := by
  have q_Wishes := He.glo_ok hX hG (hc.fact 26 (f := fun K => (He.Fa.glo "Wishes").ok K) rfl)
  have q_InvalidWishes := He.glo_ok hX hG (hc.fact 27 (f := fun K => (He.Fa.glo "InvalidWishes").ok K) rfl)
  have q_InvalidPlayers := He.glo_ok hX hG (hc.fact 28 (f := fun K => (He.Fa.glo "InvalidPlayers").ok K) rfl)
  have z_isinstance := He.free_ok hX hG (hc.fact 33 (f := fun K => (He.Fa.free "isinstance").ok K) rfl)
  have z_ValueError := He.free_ok hX hG (hc.fact 39 (f := fun K => (He.Fa.free "ValueError").ok K) rfl)
  have z_repr := He.free_ok hX hG (hc.fact 38 (f := fun K => (He.Fa.free "repr").ok K) rfl)
  have w_mkr_Wishes : (He.Fa.mkr "Wishes").ok K = true := hc.fact 74 (f := fun K => (He.Fa.mkr "Wishes").ok K) rfl
  have w_cls_Wishes : (He.Fa.cls "Wishes").ok K = true := hc.fact 69 (f := fun K => (He.Fa.cls "Wishes").ok K) rfl
  have w_isiX : isiXB isiX K = true := hc.fact 71 (f := fun K => isiXB isiX K) rfl
  have w_isiT : isiTB isiT K = true := hc.fact 72 (f := fun K => isiTB isiT K) rfl
  have w_isiD : isiDAB isiD K = true := hc.fact 73 (f := fun K => isiDAB isiD K) rfl
  have w_xf_InvalidPlayers_value : xfB "InvalidPlayers" "value" K = true := hc.fact 78 (f := fun K => xfB "InvalidPlayers" "value" K) rfl
  have w_xf_InvalidWishes_value : xfB "InvalidWishes" "value" K = true := hc.fact 79 (f := fun K => xfB "InvalidWishes" "value" K) rfl
  have w_sys : sysB K = true := hc.fact 76 (f := fun K => sysB K) rfl
  have w_exm_InvalidWishes : exmAB flyX "InvalidWishes" K = true := hc.fact 80 (f := fun K => exmAB flyX "InvalidWishes" K) rfl
  have w_prop_Wishes_pairs : propB "Wishes" "pairs" K = true := hc.fact 75 (f := fun K => propB "Wishes" "pairs" K) rfl
  have o_Wishes___init__ := ok_Wishes___init__ (P := P) (w := w) (base := base) hX hG hc
  have o_Wishes_pairs := ok_Wishes_pairs (P := P) (w := w) (base := base) hX hG hc
  obtain ⟨fd, F⟩ := hc.def_ 21 (d := d__law_made) rfl
  refine fn_p F sc__law_made rfl (fun _ _ _ _ _ _ us hl => match us, hl with | [_], _ => rfl) (fun cdv A outer s H Ee E hr hg tk => ?_)
  have hN := sc__law_made.nd
  have hu := hu_of hr
  have hq := hq_of hr
  have hi := hi_of hr
  have hv := hv_of hr
  exact ss_cons (ss_try rfl rfl hN tk (fun W0 pn0 xe0 tk0 hp0 => ss_one (ss_set 1 hN (sr_fz (sr_make (k := 5) (He.mkr_ok w_mkr_Wishes) o_Wishes___init__ (hr.mono (by decide)) hg tk0 (by rfl) q_Wishes (sa_cons (sr_v 0) (sa_nil)))))) (HsOk.as rfl rfl ⟨by rfl, by decide, .inl q_InvalidWishes⟩ (exmAB_ok w_exm_InvalidWishes) (fun a0 pn0 => ss_one (ss_ret (sr_tup (sa_cons (sr_str) (sa_cons (sr_b1 (cl_repr w_sys hg hv) (by rfl) z_repr PyProof.Rows.boot_repr (sr_fldX (List.forall_mem_cons.mpr ⟨w_xf_InvalidPlayers_value, (List.forall_mem_cons.mpr ⟨w_xf_InvalidWishes_value, (List.forall_mem_nil _)⟩)⟩) (sr_v 2))) (sa_cons (sr_isiX (isiXB_ok w_isiX) (isiTB_ok w_isiT (List.forall_mem_cons.mpr ⟨He.cls_ok w_cls_Wishes, (List.forall_mem_cons.mpr ⟨He.cls_ok w_cls_Wishes, (List.forall_mem_cons.mpr ⟨He.cls_ok w_cls_Wishes, (List.forall_mem_cons.mpr ⟨He.cls_ok w_cls_Wishes, (List.forall_mem_cons.mpr ⟨He.cls_ok w_cls_Wishes, (List.forall_mem_cons.mpr ⟨He.cls_ok w_cls_Wishes, (List.forall_mem_cons.mpr ⟨He.cls_ok w_cls_Wishes, (List.forall_mem_cons.mpr ⟨He.cls_ok w_cls_Wishes, (List.forall_mem_nil _)⟩)⟩)⟩)⟩)⟩)⟩)⟩)⟩)) (isiDAB_ok w_isiD) (by rfl) z_isinstance PyProof.Rows.boot_isinstance (sr_v 2) (sr_ty (by rfl) z_ValueError bp_ValueError.hv)) (sa_cons (sr_isiX (isiXB_ok w_isiX) (isiTB_ok w_isiT (List.forall_mem_cons.mpr ⟨He.cls_ok w_cls_Wishes, (List.forall_mem_cons.mpr ⟨He.cls_ok w_cls_Wishes, (List.forall_mem_cons.mpr ⟨He.cls_ok w_cls_Wishes, (List.forall_mem_cons.mpr ⟨He.cls_ok w_cls_Wishes, (List.forall_mem_cons.mpr ⟨He.cls_ok w_cls_Wishes, (List.forall_mem_cons.mpr ⟨He.cls_ok w_cls_Wishes, (List.forall_mem_cons.mpr ⟨He.cls_ok w_cls_Wishes, (List.forall_mem_cons.mpr ⟨He.cls_ok w_cls_Wishes, (List.forall_mem_nil _)⟩)⟩)⟩)⟩)⟩)⟩)⟩)⟩)) (isiDAB_ok w_isiD) (by rfl) z_isinstance PyProof.Rows.boot_isinstance (sr_v 2) (sr_cls (by rfl) q_InvalidPlayers)) (sa_nil)))))))) (HsOk.nil)))
          (ss_one (ss_ret (sr_tup (sa_cons (sr_str) (sa_cons (sr_b1 (cl_repr w_sys hg hv) (by rfl) z_repr PyProof.Rows.boot_repr (sr_prop (k := 1) (tab_cons ⟨He.cls_ok w_cls_Wishes, _, _, prop_ok w_prop_Wishes_pairs, (o_Wishes_pairs.mono (by decide))⟩ (tab_nil)) (hr.mono (by decide)) hg (sr_v 1))) (sa_nil))))))
theorem ok__law_is_right (hX : K.In h) (hG : h.Ns mainGlobals mg) (hc : SaysP fa fn K) : FnC P w K mg base 8 (He.ga K "_law_is_right") 1 [] F__law_is_right := by
  have q__law_are_duos := He.glo_ok hX hG (hc.fact 17 (f := fun K => (He.Fa.glo "_law_are_duos").ok K) rfl)
  have k__law_are_duos : PySem.W.keepIn K (.ref (He.ga K "_law_are_duos")) = true := hc.fact 60 (f := fun K => (He.Fa.keep "_law_are_duos").ok K) rfl
  have q__law_made := He.glo_ok hX hG (hc.fact 18 (f := fun K => (He.Fa.glo "_law_made").ok K) rfl)
  have k__law_made : PySem.W.keepIn K (.ref (He.ga K "_law_made")) = true := hc.fact 61 (f := fun K => (He.Fa.keep "_law_made").ok K) rfl
  have z_tuple := He.free_ok hX hG (hc.fact 32 (f := fun K => (He.Fa.free "tuple").ok K) rfl)
  have z_repr := He.free_ok hX hG (hc.fact 38 (f := fun K => (He.Fa.free "repr").ok K) rfl)
  have w_sys : sysB K = true := hc.fact 76 (f := fun K => sysB K) rfl
  have o__law_are_duos := ok__law_are_duos (P := P) (w := w) (base := base) hX hG hc
  have o__law_made := ok__law_made (P := P) (w := w) (base := base) hX hG hc
  obtain ⟨fd, F⟩ := hc.def_ 22 (d := d__law_is_right) rfl
  refine fn_p F sc__law_is_right rfl (fun _ _ _ _ _ _ us hl => match us, hl with | [_], _ => rfl) (fun cdv A outer s H Ee E hr hg tk => ?_)
  have hN := sc__law_is_right.nd
  have hu := hu_of hr
  have hq := hq_of hr
  have hi := hi_of hr
  have hv := hv_of hr
  exact ss_cons (ss_set 1 hN (sr_if (st_B (sr_call o__law_are_duos (hr.mono (by decide)) hg tk (by rfl) q__law_are_duos k__law_are_duos (sa_cons (sr_v 0) (sa_nil)))) (sr_tup (sa_cons (sr_str) (sa_cons (sr_b1 (cl_repr w_sys hg hv) (by rfl) z_repr PyProof.Rows.boot_repr (sr_t1 cl_tuple (by rfl) z_tuple PyProof.Rows.boot_tuple (sr_v 0))) (sa_nil)))) (sr_tup (sa_cons (sr_str) (sa_cons (sr_b1 (cl_repr w_sys hg hv) (by rfl) z_repr PyProof.Rows.boot_repr (sr_v 0)) (sa_cons (sr_bl) (sa_cons (sr_bl) (sa_nil))))))))
          (ss_cons (ss_set 2 hN (sr_b1 (cl_repr w_sys hg hv) (by rfl) z_repr PyProof.Rows.boot_repr (sr_v 0)))
          (ss_one (ss_ret (sb_and (sr_cmp (ob_eq hq) (sr_call o__law_made (hr.mono (by decide)) hg tk (by rfl) q__law_made k__law_made (sa_cons (sr_v 0) (sa_nil))) (sr_v 1) (by rfl)) (sb_one (sr_cmp (ob_eq hq) (sr_b1 (cl_repr w_sys hg hv) (by rfl) z_repr PyProof.Rows.boot_repr (sr_v 0)) (sr_v 2) (by rfl)))))))
theorem ok__law_is_equal (hX : K.In h) (hG : h.Ns mainGlobals mg) (hc : SaysP fa fn K) : FnC P w K mg base 7 (He.ga K "_law_is_equal") 2 [] F__law_is_equal := by
  have q_Wishes := He.glo_ok hX hG (hc.fact 26 (f := fun K => (He.Fa.glo "Wishes").ok K) rfl)
  have z_list := He.free_ok hX hG (hc.fact 29 (f := fun K => (He.Fa.free "list").ok K) rfl)
  have z_tuple := He.free_ok hX hG (hc.fact 32 (f := fun K => (He.Fa.free "tuple").ok K) rfl)
  have w_mkr_Wishes : (He.Fa.mkr "Wishes").ok K = true := hc.fact 74 (f := fun K => (He.Fa.mkr "Wishes").ok K) rfl
  have w_meth_Wishes___eq__ : (He.Fa.meth "Wishes" "__eq__").ok K = true := hc.fact 77 (f := fun K => (He.Fa.meth "Wishes" "__eq__").ok K) rfl
  have w_ne_Wishes : neB "Wishes" K = true := hc.fact 81 (f := fun K => neB "Wishes" K) rfl
  have o_Wishes___eq__ := ok_Wishes___eq__ (P := P) (w := w) (base := base) hX hG hc
  have o_Wishes___init__ := ok_Wishes___init__ (P := P) (w := w) (base := base) hX hG hc
  obtain ⟨fd, F⟩ := hc.def_ 23 (d := d__law_is_equal) rfl
  refine fn_p F sc__law_is_equal rfl (fun _ _ _ _ _ _ us hl => match us, hl with | [_, _], _ => rfl) (fun cdv A outer s H Ee E hr hg tk => ?_)
  have hN := sc__law_is_equal.nd
  have hu := hu_of hr
  have hq := hq_of hr
  have hi := hi_of hr
  have hv := hv_of hr
  exact ss_cons (ss_asg (sr_tup (sa_cons (sr_fz (sr_make (k := 5) (He.mkr_ok w_mkr_Wishes) o_Wishes___init__ (hr.mono (by decide)) hg tk (by rfl) q_Wishes (sa_cons (sr_v 0) (sa_nil)))) (sa_cons (sr_fz (sr_make (k := 5) (He.mkr_ok w_mkr_Wishes) o_Wishes___init__ (hr.mono (by decide)) hg tk (by rfl) q_Wishes (sa_cons (sr_v 1) (sa_nil)))) (sa_nil)))) (sg_tup rfl (sgs_cons (sg_n 2 hN) (sgs_cons (sg_n 3 hN) (sgs_nil)))))
          (ss_cons (ss_set 4 hN (sr_cmpE (neg := false) (k := 1) (ob_eq hq) (tab_cons ⟨_, (He.meth_ok w_meth_Wishes___eq__).at_, (He.meth_ok w_meth_Wishes___eq__).fn, (o_Wishes___eq__.mono (by decide)), fun h => absurd h (by decide)⟩ (tab_nil)) (hr.mono (by decide)) hg (sr_t1 cl_list (by rfl) z_list PyProof.Rows.boot_list (sr_v 0)) (sr_t1 cl_list (by rfl) z_list PyProof.Rows.boot_list (sr_v 1)) (by rfl)))
          (ss_cons (ss_if (PW.pt (sw_or (st_cmpE (neg := true) (k := 1) (ob_ne hq) (tab_cons ⟨_, (He.meth_ok w_meth_Wishes___eq__).at_, (He.meth_ok w_meth_Wishes___eq__).fn, (o_Wishes___eq__.mono (by decide)), fun _ => ne_ok w_ne_Wishes⟩ (tab_nil)) (hr.mono (by decide)) hg (sr_cmpE (neg := false) (k := 1) (ob_eq hq) (tab_cons ⟨_, (He.meth_ok w_meth_Wishes___eq__).at_, (He.meth_ok w_meth_Wishes___eq__).fn, (o_Wishes___eq__.mono (by decide)), fun h => absurd h (by decide)⟩ (tab_nil)) (hr.mono (by decide)) hg (sr_v 2) (sr_v 3) (by rfl)) (sr_v 4) (by rfl)) (sw_or (st_cmpE (neg := false) (k := 1) (ob_eq hq) (tab_cons ⟨_, (He.meth_ok w_meth_Wishes___eq__).at_, (He.meth_ok w_meth_Wishes___eq__).fn, (o_Wishes___eq__.mono (by decide)), fun h => absurd h (by decide)⟩ (tab_nil)) (hr.mono (by decide)) hg (sr_cmpE (neg := true) (k := 1) (ob_ne hq) (tab_cons ⟨_, (He.meth_ok w_meth_Wishes___eq__).at_, (He.meth_ok w_meth_Wishes___eq__).fn, (o_Wishes___eq__.mono (by decide)), fun _ => ne_ok w_ne_Wishes⟩ (tab_nil)) (hr.mono (by decide)) hg (sr_v 2) (sr_v 3) (by rfl)) (sr_v 4) (by rfl)) (sw_or1 (st_not (st_cmpE (neg := false) (k := 1) (ob_eq hq) (tab_cons ⟨_, (He.meth_ok w_meth_Wishes___eq__).at_, (He.meth_ok w_meth_Wishes___eq__).fn, (o_Wishes___eq__.mono (by decide)), fun h => absurd h (by decide)⟩ (tab_nil)) (hr.mono (by decide)) hg (sr_v 2) (sr_fz (sr_make (k := 5) (He.mkr_ok w_mkr_Wishes) o_Wishes___init__ (hr.mono (by decide)) hg tk (by rfl) q_Wishes (sa_cons (sr_t1 cl_tuple (by rfl) z_tuple PyProof.Rows.boot_tuple (sr_v 0)) (sa_nil)))) (by rfl))))))) (ss_one (ss_ret (sr_bl))) (ss_nil))
          (ss_one (ss_ret (sr_cmpE (neg := false) (k := 1) (ob_eq hq) (tab_cons ⟨_, (He.meth_ok w_meth_Wishes___eq__).at_, (He.meth_ok w_meth_Wishes___eq__).fn, (o_Wishes___eq__.mono (by decide)), fun h => absurd h (by decide)⟩ (tab_nil)) (hr.mono (by decide)) hg (sr_comp rfl hN (si_seq (sr_lst (sa_cons (sr_v 0) (sa_cons (sr_t1 cl_tuple (by rfl) z_tuple PyProof.Rows.boot_tuple (sr_v 0)) (sa_cons (sr_non) (sa_cons (sr_int) (sa_nil))))))) (own := [("_law_value_here", 5)]) (ts := [5]) (by refine (show BlkOk ["_law_duos", "_law_other", "_law_one", "_law_another", "_law_same", "_law_value_here"] (defScope tp__law_is_equal) _ _ from ?_); exact ⟨rfl, by decide +kernel, by decide +kernel, by first | decide +kernel | (repeat (first | exact List.forall_mem_nil _ | refine List.forall_mem_cons.mpr ⟨by intro h; first | exact Or.inl rfl | exact Or.inr rfl | exact absurd h (by decide), ?_⟩)), by first | decide +kernel | (dsimp only; decide +kernel)⟩) (by first | decide | (dsimp only; decide)) (fun _ _ _ _ _ => sg_n 5 hN) (fun _ _ _ _ _ => sts_one (PW.pt (sw_or (st_cmpE (neg := false) (k := 1) (ob_eq hq) (tab_cons ⟨_, (He.meth_ok w_meth_Wishes___eq__).at_, (He.meth_ok w_meth_Wishes___eq__).fn, (o_Wishes___eq__.mono (by decide)), fun h => absurd h (by decide)⟩ (tab_nil)) (hr.mono (by decide)) hg (sr_v 2) (sr_v 5) (by rfl)) (sw_or1 (st_not (st_cmpE (neg := true) (k := 1) (ob_ne hq) (tab_cons ⟨_, (He.meth_ok w_meth_Wishes___eq__).at_, (He.meth_ok w_meth_Wishes___eq__).fn, (o_Wishes___eq__.mono (by decide)), fun _ => ne_ok w_ne_Wishes⟩ (tab_nil)) (hr.mono (by decide)) hg (sr_v 2) (sr_v 5) (by rfl))))))) (fun _ _ _ _ _ => sr_v 5)) (sr_lst (sa_nil)) (by rfl))))))
theorem ok_Wishes_exactly (hX : K.In h) (hG : h.Ns mainGlobals mg) (hc : SaysP fa fn K) : FnC P w K mg base 7 (recG K "classmethod" "Wishes" "exactly") 2 [] F_Wishes_exactly := by
  have q_is_list := He.glo_ok hX hG (hc.fact 5 (f := fun K => (He.Fa.glo "is_list").ok K) rfl)
  have k_is_list : PySem.W.keepIn K (.ref (He.ga K "is_list")) = true := hc.fact 48 (f := fun K => (He.Fa.keep "is_list").ok K) rfl
  have q_is_fraction := He.glo_ok hX hG (hc.fact 9 (f := fun K => (He.Fa.glo "is_fraction").ok K) rfl)
  have k_is_fraction : PySem.W.keepIn K (.ref (He.ga K "is_fraction")) = true := hc.fact 52 (f := fun K => (He.Fa.keep "is_fraction").ok K) rfl
  have q_InvalidWishes := He.glo_ok hX hG (hc.fact 27 (f := fun K => (He.Fa.glo "InvalidWishes").ok K) rfl)
  have z_len := He.free_ok hX hG (hc.fact 30 (f := fun K => (He.Fa.free "len").ok K) rfl)
  have z_all := He.free_ok hX hG (hc.fact 37 (f := fun K => (He.Fa.free "all").ok K) rfl)
  obtain ⟨t_MAX_PLAYERS, z_MAX_PLAYERS⟩ := He.int_ok hX hG (hc.fact 42 (f := fun K => (He.Fa.int "MAX_PLAYERS" 3).ok K) rfl)
  have w_mkr_Wishes : (He.Fa.mkr "Wishes").ok K = true := hc.fact 74 (f := fun K => (He.Fa.mkr "Wishes").ok K) rfl
  have x_InvalidWishes := xc_InvalidWishes (P := P) (w := w) (base := base) hX hG hc
  have o_Wishes___init__ := ok_Wishes___init__ (P := P) (w := w) (base := base) hX hG hc
  have o_is_fraction := ok_is_fraction (P := P) (w := w) (base := base) hX hG hc
  have o_is_list := ok_is_list (P := P) (w := w) (base := base) hX hG hc
  obtain ⟨fd, F⟩ := hc.def_ 24 (d := d_Wishes_exactly) rfl
  refine fn_p F sc_Wishes_exactly rfl (fun _ _ _ _ _ _ us hl => match us, hl with | [_, _], _ => rfl) (fun cdv A outer s H Ee E hr hg tk => ?_)
  have hN := sc_Wishes_exactly.nd
  have hu := hu_of hr
  have hq := hq_of hr
  have hi := hi_of hr
  have hv := hv_of hr
  exact ss_cons (ss_if (PW.pt (sw_or (st_not (st_B (sr_call o_is_list (hr.mono (by decide)) hg tk (by rfl) q_is_list k_is_list (sa_cons (sr_v 1) (sa_nil))))) (sw_or (st_not (st_ch ob_le ob_le (sr_int) (sr_b1 cl_len (by rfl) z_len boot_len (sr_v 1)) (sr_gI (by rfl) z_MAX_PLAYERS) (by with_unfolding_all rfl))) (sw_or1 (st_not (st_B (sr_b1 (cl_all rfl) (by rfl) z_all PyProof.Rows.boot_all (sr_comp rfl hN (si_seq (sr_v 1)) (own := [("mean", 2)]) (ts := [2]) (by refine (show BlkOk ["cls", "means", "mean"] (defScope tp_Wishes_exactly) _ _ from ?_); exact ⟨rfl, by decide +kernel, by decide +kernel, by first | decide +kernel | (repeat (first | exact List.forall_mem_nil _ | refine List.forall_mem_cons.mpr ⟨by intro h; first | exact Or.inl rfl | exact Or.inr rfl | exact absurd h (by decide), ?_⟩)), by first | decide +kernel | (dsimp only; decide +kernel)⟩) (by first | decide | (dsimp only; decide)) (fun _ _ _ _ _ => sg_n 2 hN) (fun _ _ _ _ _ => sts_nil) (fun _ _ _ _ _ => sr_call o_is_fraction (hr.mono (by decide)) hg takesF (by rfl) q_is_fraction k_is_fraction (sa_cons (sr_v 2) (sa_nil))))))))))) (ss_one (ss_raise x_InvalidWishes (hr.mono (by decide)) rfl tk (by rfl) q_InvalidWishes (sa_cons (sr_v 1) (sa_nil)))) (ss_nil))
          (ss_one (ss_ret (sr_fz (sr_makeL (k := 5) 0 (He.mkr_ok w_mkr_Wishes) o_Wishes___init__ (hr.mono (by decide)) hg tk (sa_cons (sr_comp rfl hN (si_seq (sr_v 1)) (own := [("mean", 2)]) (ts := [2]) (by refine (show BlkOk ["cls", "means", "mean"] (defScope tp_Wishes_exactly) _ _ from ?_); exact ⟨rfl, by decide +kernel, by decide +kernel, by first | decide +kernel | (repeat (first | exact List.forall_mem_nil _ | refine List.forall_mem_cons.mpr ⟨by intro h; first | exact Or.inl rfl | exact Or.inr rfl | exact absurd h (by decide), ?_⟩)), by first | decide +kernel | (dsimp only; decide +kernel)⟩) (by first | decide | (dsimp only; decide)) (fun _ _ _ _ _ => sg_n 2 hN) (fun _ _ _ _ _ => sts_nil) (fun _ _ _ _ _ => sr_tup (sa_cons (sr_v 2) (sa_cons (sr_v 2) (sa_nil))))) (sa_nil))))))
theorem ok__law_exact (hX : K.In h) (hG : h.Ns mainGlobals mg) (hc : SaysP fa fn K) : FnC P w K mg base 8 (He.ga K "_law_exact") 1 [] F__law_exact := by
  have q_Wishes := He.glo_ok hX hG (hc.fact 26 (f := fun K => (He.Fa.glo "Wishes").ok K) rfl)
  have q_InvalidWishes := He.glo_ok hX hG (hc.fact 27 (f := fun K => (He.Fa.glo "InvalidWishes").ok K) rfl)
  have z_repr := He.free_ok hX hG (hc.fact 38 (f := fun K => (He.Fa.free "repr").ok K) rfl)
  have w_read_Wishes : readB "Wishes" K = true := hc.fact 82 (f := fun K => readB "Wishes" K) rfl
  have w_cm_Wishes_exactly : cmB "Wishes" "exactly" K = true := hc.fact 83 (f := fun K => cmB "Wishes" "exactly" K) rfl
  have w_xf_InvalidPlayers_value : xfB "InvalidPlayers" "value" K = true := hc.fact 78 (f := fun K => xfB "InvalidPlayers" "value" K) rfl
  have w_xf_InvalidWishes_value : xfB "InvalidWishes" "value" K = true := hc.fact 79 (f := fun K => xfB "InvalidWishes" "value" K) rfl
  have w_sys : sysB K = true := hc.fact 76 (f := fun K => sysB K) rfl
  have w_exm_InvalidWishes : exmAB flyX "InvalidWishes" K = true := hc.fact 80 (f := fun K => exmAB flyX "InvalidWishes" K) rfl
  have w_cls_Wishes : (He.Fa.cls "Wishes").ok K = true := hc.fact 69 (f := fun K => (He.Fa.cls "Wishes").ok K) rfl
  have w_prop_Wishes_pairs : propB "Wishes" "pairs" K = true := hc.fact 75 (f := fun K => propB "Wishes" "pairs" K) rfl
  have o_Wishes_exactly := ok_Wishes_exactly (P := P) (w := w) (base := base) hX hG hc
  have o_Wishes_pairs := ok_Wishes_pairs (P := P) (w := w) (base := base) hX hG hc
  obtain ⟨fd, F⟩ := hc.def_ 25 (d := d__law_exact) rfl
  refine fn_p F sc__law_exact rfl (fun _ _ _ _ _ _ us hl => match us, hl with | [_], _ => rfl) (fun cdv A outer s H Ee E hr hg tk => ?_)
  have hN := sc__law_exact.nd
  have hu := hu_of hr
  have hq := hq_of hr
  have hi := hi_of hr
  have hv := hv_of hr
  exact ss_cons (ss_try rfl rfl hN tk (fun W0 pn0 xe0 tk0 hp0 => ss_one (ss_set 1 hN (sr_cm (read_ok w_read_Wishes) (cm_ok w_cm_Wishes_exactly) o_Wishes_exactly (hr.mono (by decide)) hg tk0 (by rfl) q_Wishes (sa_cons (sr_v 0) (sa_nil))))) (HsOk.as rfl rfl ⟨by rfl, by decide, .inl q_InvalidWishes⟩ (exmAB_ok w_exm_InvalidWishes) (fun a0 pn0 => ss_one (ss_ret (sr_tup (sa_cons (sr_str) (sa_cons (sr_b1 (cl_repr w_sys hg hv) (by rfl) z_repr PyProof.Rows.boot_repr (sr_fldX (List.forall_mem_cons.mpr ⟨w_xf_InvalidPlayers_value, (List.forall_mem_cons.mpr ⟨w_xf_InvalidWishes_value, (List.forall_mem_nil _)⟩)⟩) (sr_v 2))) (sa_nil)))))) (HsOk.nil)))
          (ss_one (ss_ret (sr_tup (sa_cons (sr_str) (sa_cons (sr_b1 (cl_repr w_sys hg hv) (by rfl) z_repr PyProof.Rows.boot_repr (sr_prop (k := 1) (tab_cons ⟨He.cls_ok w_cls_Wishes, _, _, prop_ok w_prop_Wishes_pairs, (o_Wishes_pairs.mono (by decide))⟩ (tab_nil)) (hr.mono (by decide)) hg (sr_v 1))) (sa_nil))))))
theorem ok__law_is_exact (hX : K.In h) (hG : h.Ns mainGlobals mg) (hc : SaysP fa fn K) : FnC P w K mg base 9 (He.ga K "_law_is_exact") 1 [] F__law_is_exact := by
  have q__law_is_value := He.glo_ok hX hG (hc.fact 16 (f := fun K => (He.Fa.glo "_law_is_value").ok K) rfl)
  have k__law_is_value : PySem.W.keepIn K (.ref (He.ga K "_law_is_value")) = true := hc.fact 59 (f := fun K => (He.Fa.keep "_law_is_value").ok K) rfl
  have q__law_exact := He.glo_ok hX hG (hc.fact 21 (f := fun K => (He.Fa.glo "_law_exact").ok K) rfl)
  have k__law_exact : PySem.W.keepIn K (.ref (He.ga K "_law_exact")) = true := hc.fact 64 (f := fun K => (He.Fa.keep "_law_exact").ok K) rfl
  have z_repr := He.free_ok hX hG (hc.fact 38 (f := fun K => (He.Fa.free "repr").ok K) rfl)
  have z_tuple := He.free_ok hX hG (hc.fact 32 (f := fun K => (He.Fa.free "tuple").ok K) rfl)
  have z_list := He.free_ok hX hG (hc.fact 29 (f := fun K => (He.Fa.free "list").ok K) rfl)
  have z_isinstance := He.free_ok hX hG (hc.fact 33 (f := fun K => (He.Fa.free "isinstance").ok K) rfl)
  have z_len := He.free_ok hX hG (hc.fact 30 (f := fun K => (He.Fa.free "len").ok K) rfl)
  have w_sys : sysB K = true := hc.fact 76 (f := fun K => sysB K) rfl
  have o__law_exact := ok__law_exact (P := P) (w := w) (base := base) hX hG hc
  have o__law_is_value := ok__law_is_value (P := P) (w := w) (base := base) hX hG hc
  obtain ⟨fd, F⟩ := hc.def_ 26 (d := d__law_is_exact) rfl
  refine fn_p F sc__law_is_exact rfl (fun _ _ _ _ _ _ us hl => match us, hl with | [_], _ => rfl) (fun cdv A outer s H Ee E hr hg tk => ?_)
  have hN := sc__law_is_exact.nd
  have hu := hu_of hr
  have hq := hq_of hr
  have hi := hi_of hr
  have hv := hv_of hr
  exact ss_cons (ss_set 1 hN (sr_tup (sa_cons (sr_str) (sa_cons (sr_b1 (cl_repr w_sys hg hv) (by rfl) z_repr PyProof.Rows.boot_repr (sr_v 0)) (sa_nil)))))
          (ss_cons (ss_if (PW.pt (sw_and (st_B (sr_b2 cl_isi (by rfl) z_isinstance PyProof.Rows.boot_isinstance (sr_v 0) (sr_tup (sa_cons (sr_ty (by rfl) z_list PyProof.Rows.boot_list) (sa_cons (sr_ty (by rfl) z_tuple PyProof.Rows.boot_tuple) (sa_nil)))))) (sw_and1 (st_ch ob_lt ob_lt (sr_int) (sr_b1 cl_len (by rfl) z_len boot_len (sr_v 0)) (sr_int) (by with_unfolding_all rfl))))) (ss_one (ss_if (st_cmp (ob_eq hq) (sr_comp rfl hN (si_seq (sr_v 0)) (own := [("_law_one", 2)]) (ts := [2]) (by refine (show BlkOk ["_law_value_here", "_law_due", "_law_one"] (defScope tp__law_is_exact) _ _ from ?_); exact ⟨rfl, by decide +kernel, by decide +kernel, by first | decide +kernel | (repeat (first | exact List.forall_mem_nil _ | refine List.forall_mem_cons.mpr ⟨by intro h; first | exact Or.inl rfl | exact Or.inr rfl | exact absurd h (by decide), ?_⟩)), by first | decide +kernel | (dsimp only; decide +kernel)⟩) (by first | decide | (dsimp only; decide)) (fun _ _ _ _ _ => sg_n 2 hN) (fun _ _ _ _ _ => sts_one (st_not (st_B (sr_call o__law_is_value (hr.mono (by decide)) hg takesF (by rfl) q__law_is_value k__law_is_value (sa_cons (sr_v 2) (sa_nil)))))) (fun _ _ _ _ _ => sr_v 2)) (sr_lst (sa_nil)) (by rfl)) (ss_one (ss_set 1 hN (sr_tup (sa_cons (sr_str) (sa_cons (sr_b1 (cl_repr w_sys hg hv) (by rfl) z_repr PyProof.Rows.boot_repr (sr_t1 cl_tuple (by rfl) z_tuple PyProof.Rows.boot_tuple (sr_comp rfl hN (si_seq (sr_v 0)) (own := [("_law_one", 2)]) (ts := [2]) (by refine (show BlkOk ["_law_value_here", "_law_due", "_law_one"] (defScope tp__law_is_exact) _ _ from ?_); exact ⟨rfl, by decide +kernel, by decide +kernel, by first | decide +kernel | (repeat (first | exact List.forall_mem_nil _ | refine List.forall_mem_cons.mpr ⟨by intro h; first | exact Or.inl rfl | exact Or.inr rfl | exact absurd h (by decide), ?_⟩)), by first | decide +kernel | (dsimp only; decide +kernel)⟩) (by first | decide | (dsimp only; decide)) (fun _ _ _ _ _ => sg_n 2 hN) (fun _ _ _ _ _ => sts_nil) (fun _ _ _ _ _ => sr_tup (sa_cons (sr_v 2) (sa_cons (sr_v 2) (sa_nil))))))) (sa_nil)))))) (ss_nil))) (ss_nil))
          (ss_one (ss_ret (sr_cmp (ob_eq hq) (sr_call o__law_exact (hr.mono (by decide)) hg tk (by rfl) q__law_exact k__law_exact (sa_cons (sr_v 0) (sa_nil))) (sr_v 1) (by rfl)))))
theorem ok_is_between (hX : K.In h) (hG : h.Ns mainGlobals mg) (hc : SaysP fa fn K) : FnC P w K mg base 2 (He.ga K "is_between") 3 [] F_is_between := by
  have q_is_integer := He.glo_ok hX hG (hc.fact 7 (f := fun K => (He.Fa.glo "is_integer").ok K) rfl)
  have k_is_integer : PySem.W.keepIn K (.ref (He.ga K "is_integer")) = true := hc.fact 50 (f := fun K => (He.Fa.keep "is_integer").ok K) rfl
  have o_is_integer := ok_is_integer (P := P) (w := w) (base := base) hX hG hc
  obtain ⟨fd, F⟩ := hc.def_ 27 (d := d_is_between) rfl
  refine fn_p F sc_is_between rfl (fun _ _ _ _ _ _ us hl => match us, hl with | [_, _, _], _ => rfl) (fun cdv A outer s H Ee E hr hg tk => ?_)
  have hN := sc_is_between.nd
  have hu := hu_of hr
  have hq := hq_of hr
  have hi := hi_of hr
  have hv := hv_of hr
  exact ss_one (ss_ret (sb_and (sb_B (sr_call o_is_integer (hr.mono (by decide)) hg tk (by rfl) q_is_integer k_is_integer (sa_cons (sr_v 0) (sa_nil)))) (sb_one (sr_ch ob_le ob_le (sr_v 1) (sr_v 0) (sr_v 2) (by with_unfolding_all rfl)))))
theorem ok_Wishes_none (hX : K.In h) (hG : h.Ns mainGlobals mg) (hc : SaysP fa fn K) : FnC P w K mg base 7 (recG K "classmethod" "Wishes" "none") 2 [] F_Wishes_none := by
  have q_is_between := He.glo_ok hX hG (hc.fact 23 (f := fun K => (He.Fa.glo "is_between").ok K) rfl)
  have k_is_between : PySem.W.keepIn K (.ref (He.ga K "is_between")) = true := hc.fact 66 (f := fun K => (He.Fa.keep "is_between").ok K) rfl
  have q_InvalidPlayers := He.glo_ok hX hG (hc.fact 28 (f := fun K => (He.Fa.glo "InvalidPlayers").ok K) rfl)
  obtain ⟨t_MAX_PLAYERS, z_MAX_PLAYERS⟩ := He.int_ok hX hG (hc.fact 42 (f := fun K => (He.Fa.int "MAX_PLAYERS" 3).ok K) rfl)
  have w_mkr_Wishes : (He.Fa.mkr "Wishes").ok K = true := hc.fact 74 (f := fun K => (He.Fa.mkr "Wishes").ok K) rfl
  have x_InvalidPlayers := xc_InvalidPlayers (P := P) (w := w) (base := base) hX hG hc
  have o_Wishes___init__ := ok_Wishes___init__ (P := P) (w := w) (base := base) hX hG hc
  have o_is_between := ok_is_between (P := P) (w := w) (base := base) hX hG hc
  obtain ⟨fd, F⟩ := hc.def_ 28 (d := d_Wishes_none) rfl
  refine fn_p F sc_Wishes_none rfl (fun _ _ _ _ _ _ us hl => match us, hl with | [_, _], _ => rfl) (fun cdv A outer s H Ee E hr hg tk => ?_)
  have hN := sc_Wishes_none.nd
  have hu := hu_of hr
  have hq := hq_of hr
  have hi := hi_of hr
  have hv := hv_of hr
  exact ss_cons (ss_if (st_not (st_B (sr_call o_is_between (hr.mono (by decide)) hg tk (by rfl) q_is_between k_is_between (sa_cons (sr_v 1) (sa_cons (sr_int) (sa_cons (sr_gI (by rfl) z_MAX_PLAYERS) (sa_nil))))))) (ss_one (ss_raise x_InvalidPlayers (hr.mono (by decide)) rfl tk (by rfl) q_InvalidPlayers (sa_cons (sr_v 1) (sa_nil)))) (ss_nil))
          (ss_one (ss_ret (sr_fz (sr_makeL (k := 5) 0 (He.mkr_ok w_mkr_Wishes) o_Wishes___init__ (hr.mono (by decide)) hg tk (sa_cons (sr_op os_mulL (sr_lst (sa_cons (sr_tup (sa_cons (sr_non) (sa_cons (sr_non) (sa_nil)))) (sa_nil))) (sr_v 1)) (sa_nil))))))
theorem ok__law_none (hX : K.In h) (hG : h.Ns mainGlobals mg) (hc : SaysP fa fn K) : FnC P w K mg base 8 (He.ga K "_law_none") 1 [] F__law_none := by
  have q_Wishes := He.glo_ok hX hG (hc.fact 26 (f := fun K => (He.Fa.glo "Wishes").ok K) rfl)
  have q_InvalidPlayers := He.glo_ok hX hG (hc.fact 28 (f := fun K => (He.Fa.glo "InvalidPlayers").ok K) rfl)
  have z_repr := He.free_ok hX hG (hc.fact 38 (f := fun K => (He.Fa.free "repr").ok K) rfl)
  have z_ValueError := He.free_ok hX hG (hc.fact 39 (f := fun K => (He.Fa.free "ValueError").ok K) rfl)
  have z_isinstance := He.free_ok hX hG (hc.fact 33 (f := fun K => (He.Fa.free "isinstance").ok K) rfl)
  have w_read_Wishes : readB "Wishes" K = true := hc.fact 82 (f := fun K => readB "Wishes" K) rfl
  have w_cm_Wishes_none : cmB "Wishes" "none" K = true := hc.fact 84 (f := fun K => cmB "Wishes" "none" K) rfl
  have w_cls_Wishes : (He.Fa.cls "Wishes").ok K = true := hc.fact 69 (f := fun K => (He.Fa.cls "Wishes").ok K) rfl
  have w_prop_Wishes_pairs : propB "Wishes" "pairs" K = true := hc.fact 75 (f := fun K => propB "Wishes" "pairs" K) rfl
  have w_sys : sysB K = true := hc.fact 76 (f := fun K => sysB K) rfl
  have w_isiX : isiXB isiX K = true := hc.fact 71 (f := fun K => isiXB isiX K) rfl
  have w_isiT : isiTB isiT K = true := hc.fact 72 (f := fun K => isiTB isiT K) rfl
  have w_isiD : isiDAB isiD K = true := hc.fact 73 (f := fun K => isiDAB isiD K) rfl
  have w_xf_InvalidPlayers_value : xfB "InvalidPlayers" "value" K = true := hc.fact 78 (f := fun K => xfB "InvalidPlayers" "value" K) rfl
  have w_xf_InvalidWishes_value : xfB "InvalidWishes" "value" K = true := hc.fact 79 (f := fun K => xfB "InvalidWishes" "value" K) rfl
  have w_exm_InvalidPlayers : exmAB flyX "InvalidPlayers" K = true := hc.fact 85 (f := fun K => exmAB flyX "InvalidPlayers" K) rfl
  have o_Wishes_none := ok_Wishes_none (P := P) (w := w) (base := base) hX hG hc
  have o_Wishes_pairs := ok_Wishes_pairs (P := P) (w := w) (base := base) hX hG hc
  obtain ⟨fd, F⟩ := hc.def_ 29 (d := d__law_none) rfl
  refine fn_p F sc__law_none rfl (fun _ _ _ _ _ _ us hl => match us, hl with | [_], _ => rfl) (fun cdv A outer s H Ee E hr hg tk => ?_)
  have hN := sc__law_none.nd
  have hu := hu_of hr
  have hq := hq_of hr
  have hi := hi_of hr
  have hv := hv_of hr
  exact ss_one (ss_try rfl rfl hN tk (fun W0 pn0 xe0 tk0 hp0 => ss_one (ss_ret (sr_b1 (cl_repr w_sys hg hv) (by rfl) z_repr PyProof.Rows.boot_repr (sr_prop (k := 1) (tab_cons ⟨He.cls_ok w_cls_Wishes, _, _, prop_ok w_prop_Wishes_pairs, (o_Wishes_pairs.mono (by decide))⟩ (tab_nil)) (hr.mono (by decide)) hg (sr_cm (read_ok w_read_Wishes) (cm_ok w_cm_Wishes_none) o_Wishes_none (hr.mono (by decide)) hg tk0 (by rfl) q_Wishes (sa_cons (sr_v 0) (sa_nil))))))) (HsOk.as rfl rfl ⟨by rfl, by decide, .inl q_InvalidPlayers⟩ (exmAB_ok w_exm_InvalidPlayers) (fun a0 pn0 => ss_one (ss_ret (sr_tup (sa_cons (sr_str) (sa_cons (sr_b1 (cl_repr w_sys hg hv) (by rfl) z_repr PyProof.Rows.boot_repr (sr_fldX (List.forall_mem_cons.mpr ⟨w_xf_InvalidPlayers_value, (List.forall_mem_cons.mpr ⟨w_xf_InvalidWishes_value, (List.forall_mem_nil _)⟩)⟩) (sr_v 1))) (sa_cons (sr_isiX (isiXB_ok w_isiX) (isiTB_ok w_isiT (List.forall_mem_cons.mpr ⟨He.cls_ok w_cls_Wishes, (List.forall_mem_cons.mpr ⟨He.cls_ok w_cls_Wishes, (List.forall_mem_cons.mpr ⟨He.cls_ok w_cls_Wishes, (List.forall_mem_cons.mpr ⟨He.cls_ok w_cls_Wishes, (List.forall_mem_cons.mpr ⟨He.cls_ok w_cls_Wishes, (List.forall_mem_cons.mpr ⟨He.cls_ok w_cls_Wishes, (List.forall_mem_cons.mpr ⟨He.cls_ok w_cls_Wishes, (List.forall_mem_cons.mpr ⟨He.cls_ok w_cls_Wishes, (List.forall_mem_nil _)⟩)⟩)⟩)⟩)⟩)⟩)⟩)⟩)) (isiDAB_ok w_isiD) (by rfl) z_isinstance PyProof.Rows.boot_isinstance (sr_v 1) (sr_ty (by rfl) z_ValueError bp_ValueError.hv)) (sa_nil))))))) (HsOk.nil)))
theorem ok_law (hX : K.In h) (hG : h.Ns mainGlobals mg) (hc : SaysP fa fn K) : FnC P w K mg base 11 (He.ga K "law") 1 [] F_law := by
  have q__law_pen := He.glo_ok hX hG (hc.fact 0 (f := fun K => (He.Fa.glo "_law_pen").ok K) rfl)
  have k__law_pen : PySem.W.keepIn K (.ref (He.ga K "_law_pen")) = true := hc.fact 43 (f := fun K => (He.Fa.keep "_law_pen").ok K) rfl
  have q__law_draw := He.glo_ok hX hG (hc.fact 1 (f := fun K => (He.Fa.glo "_law_draw").ok K) rfl)
  have k__law_draw : PySem.W.keepIn K (.ref (He.ga K "_law_draw")) = true := hc.fact 44 (f := fun K => (He.Fa.keep "_law_draw").ok K) rfl
  have q__law_value := He.glo_ok hX hG (hc.fact 15 (f := fun K => (He.Fa.glo "_law_value").ok K) rfl)
  have k__law_value : PySem.W.keepIn K (.ref (He.ga K "_law_value")) = true := hc.fact 58 (f := fun K => (He.Fa.keep "_law_value").ok K) rfl
  have q__law_pick := He.glo_ok hX hG (hc.fact 2 (f := fun K => (He.Fa.glo "_law_pick").ok K) rfl)
  have k__law_pick : PySem.W.keepIn K (.ref (He.ga K "_law_pick")) = true := hc.fact 45 (f := fun K => (He.Fa.keep "_law_pick").ok K) rfl
  have q__law_is_right := He.glo_ok hX hG (hc.fact 19 (f := fun K => (He.Fa.glo "_law_is_right").ok K) rfl)
  have k__law_is_right : PySem.W.keepIn K (.ref (He.ga K "_law_is_right")) = true := hc.fact 62 (f := fun K => (He.Fa.keep "_law_is_right").ok K) rfl
  have q__law_is_equal := He.glo_ok hX hG (hc.fact 20 (f := fun K => (He.Fa.glo "_law_is_equal").ok K) rfl)
  have k__law_is_equal : PySem.W.keepIn K (.ref (He.ga K "_law_is_equal")) = true := hc.fact 63 (f := fun K => (He.Fa.keep "_law_is_equal").ok K) rfl
  have q__law_odd := He.glo_ok hX hG (hc.fact 3 (f := fun K => (He.Fa.glo "_law_odd").ok K) rfl)
  have k__law_odd : PySem.W.keepIn K (.ref (He.ga K "_law_odd")) = true := hc.fact 46 (f := fun K => (He.Fa.keep "_law_odd").ok K) rfl
  have q__law_bent := He.glo_ok hX hG (hc.fact 4 (f := fun K => (He.Fa.glo "_law_bent").ok K) rfl)
  have k__law_bent : PySem.W.keepIn K (.ref (He.ga K "_law_bent")) = true := hc.fact 47 (f := fun K => (He.Fa.keep "_law_bent").ok K) rfl
  have q__law_is_exact := He.glo_ok hX hG (hc.fact 22 (f := fun K => (He.Fa.glo "_law_is_exact").ok K) rfl)
  have k__law_is_exact : PySem.W.keepIn K (.ref (He.ga K "_law_is_exact")) = true := hc.fact 65 (f := fun K => (He.Fa.keep "_law_is_exact").ok K) rfl
  have q__law_none := He.glo_ok hX hG (hc.fact 24 (f := fun K => (He.Fa.glo "_law_none").ok K) rfl)
  have k__law_none : PySem.W.keepIn K (.ref (He.ga K "_law_none")) = true := hc.fact 67 (f := fun K => (He.Fa.keep "_law_none").ok K) rfl
  have q__law_copied := He.glo_ok hX hG (hc.fact 12 (f := fun K => (He.Fa.glo "_law_copied").ok K) rfl)
  have k__law_copied : PySem.W.keepIn K (.ref (He.ga K "_law_copied")) = true := hc.fact 55 (f := fun K => (He.Fa.keep "_law_copied").ok K) rfl
  have z_len := He.free_ok hX hG (hc.fact 30 (f := fun K => (He.Fa.free "len").ok K) rfl)
  have z_min := He.free_ok hX hG (hc.fact 40 (f := fun K => (He.Fa.free "min").ok K) rfl)
  have z_range := He.free_ok hX hG (hc.fact 41 (f := fun K => (He.Fa.free "range").ok K) rfl)
  have z_tuple := He.free_ok hX hG (hc.fact 32 (f := fun K => (He.Fa.free "tuple").ok K) rfl)
  have z_repr := He.free_ok hX hG (hc.fact 38 (f := fun K => (He.Fa.free "repr").ok K) rfl)
  have z_int := He.free_ok hX hG (hc.fact 35 (f := fun K => (He.Fa.free "int").ok K) rfl)
  have z_isinstance := He.free_ok hX hG (hc.fact 33 (f := fun K => (He.Fa.free "isinstance").ok K) rfl)
  have z_bool := He.free_ok hX hG (hc.fact 36 (f := fun K => (He.Fa.free "bool").ok K) rfl)
  have w_sys : sysB K = true := hc.fact 76 (f := fun K => sysB K) rfl
  have o__law_bent := ok__law_bent (P := P) (w := w) (base := base) hX hG hc 6
  have o__law_copied := ok__law_copied (P := P) (w := w) (base := base) hX hG hc
  have o__law_draw := ok__law_draw (P := P) (w := w) (base := base) hX hG hc
  have o__law_is_equal := ok__law_is_equal (P := P) (w := w) (base := base) hX hG hc
  have o__law_is_exact := ok__law_is_exact (P := P) (w := w) (base := base) hX hG hc
  have o__law_is_right := ok__law_is_right (P := P) (w := w) (base := base) hX hG hc
  have o__law_none := ok__law_none (P := P) (w := w) (base := base) hX hG hc
  have o__law_odd := ok__law_odd (P := P) (w := w) (base := base) hX hG hc
  have o__law_pen := ok__law_pen (P := P) (w := w) (base := base) hX hG hc
  have o__law_pick := ok__law_pick (P := P) (w := w) (base := base) hX hG hc
  have o__law_value := ok__law_value (P := P) (w := w) (base := base) hX hG hc
  obtain ⟨fd, F⟩ := hc.def_ 30 (d := d_law) rfl
  refine fn_p F sc_law rfl (fun _ _ _ _ _ _ us hl => match us, hl with | [_], _ => rfl) (fun cdv A outer s H Ee E hr hg tk => ?_)
  have hN := sc_law.nd
  have hu := hu_of hr
  have hq := hq_of hr
  have hi := hi_of hr
  have hv := hv_of hr
  exact ss_cons (ss_set 1 hN (sr_call o__law_pen (hr.mono (by decide)) hg tk (by rfl) q__law_pen k__law_pen (sa_cons (sr_v 0) (sa_nil))))
          (ss_cons (ss_for (passes_of rfl) rfl (si_rg1 (by rfl) z_range (sr_op os_add (sr_int) (sr_b2 (cl_min rfl) (by rfl) z_min PyProof.Rows.boot_min (sr_int) (sr_b1 cl_len (by rfl) z_len boot_len (sr_v 0))))) (sg_n 2 hN) (ss_cons (ss_set 3 hN (sr_op os_add (sr_int) (sr_call o__law_draw (hr.mono (by decide)) hg tk (by rfl) q__law_draw k__law_draw (sa_cons (sr_v 1) (sa_cons (sr_int) (sa_nil))))))
          (ss_cons (ss_setLc 4 rfl hN (si_rg1 (by rfl) z_range (sr_v 3)) (own := [("_law_k", 5)]) (ts := [5]) (by refine (show BlkOk ["_law_script", "_law_pen_here", "_law_turn", "_law_many", "_law_duos", "_law_k", "_law_other", "_law_value_here", "_law_some", "_law_low", "_law_high", "_law_due"] (defScope tp_law) _ _ from ?_); exact ⟨rfl, by decide +kernel, by decide +kernel, by first | decide +kernel | (repeat (first | exact List.forall_mem_nil _ | refine List.forall_mem_cons.mpr ⟨by intro h; first | exact Or.inl rfl | exact Or.inr rfl | exact absurd h (by decide), ?_⟩)), by first | decide +kernel | (dsimp only; decide +kernel)⟩) (by first | decide | (dsimp only; decide)) (fun _ _ _ _ _ => sg_n 5 hN) (fun _ _ _ _ _ => sts_nil) (fun _ _ _ _ _ => sr_tup (sa_cons (sr_call o__law_value (hr.mono (by decide)) hg takesF (by rfl) q__law_value k__law_value (sa_cons (sr_v 1) (sa_nil))) (sa_cons (sr_call o__law_value (hr.mono (by decide)) hg takesF (by rfl) q__law_value k__law_value (sa_cons (sr_v 1) (sa_nil))) (sa_nil)))))
          (ss_cons (ss_set 6 hN (sr_op os_add (sr_sl (sr_v 4) (sp_no) (sp_pt (sr_un us_neg (sr_int)))) (sr_lst (sa_cons (sr_tup (sa_cons (sr_call o__law_value (hr.mono (by decide)) hg tk (by rfl) q__law_value k__law_value (sa_cons (sr_v 1) (sa_nil))) (sa_cons (sr_call o__law_pick (hr.mono (by decide)) hg tk (by rfl) q__law_pick k__law_pick (sa_cons (sr_v 1) (sa_cons (sr_lst (sa_cons (sr_ix hu (sr_ix hu (sr_v 4) (sr_un us_neg (sr_int))) (sr_int)) (sa_cons (sr_non) (sa_nil)))) (sa_nil)))) (sa_nil)))) (sa_nil)))))
          (ss_cons (ss_if (PW.pt (sw_or (st_not (st_B (sr_call o__law_is_right (hr.mono (by decide)) hg tk (by rfl) q__law_is_right k__law_is_right (sa_cons (sr_v 4) (sa_nil))))) (sw_or (st_not (st_B (sr_call o__law_is_right (hr.mono (by decide)) hg tk (by rfl) q__law_is_right k__law_is_right (sa_cons (sr_t1 cl_tuple (by rfl) z_tuple PyProof.Rows.boot_tuple (sr_v 4)) (sa_nil))))) (sw_or1 (st_not (st_B (sr_call o__law_is_equal (hr.mono (by decide)) hg tk (by rfl) q__law_is_equal k__law_is_equal (sa_cons (sr_v 4) (sa_cons (sr_v 6) (sa_nil)))))))))) (ss_one (ss_ret (sr_bl))) (ss_nil))
          (ss_cons (ss_for (passes_of rfl) rfl (si_seq (sr_lst (sa_cons (sr_call o__law_bent (hr.mono (by decide)) hg tk (by rfl) q__law_bent k__law_bent (sa_cons (sr_v 1) (sa_cons (sr_v 4) (sa_nil)))) (sa_cons (sr_call o__law_bent (hr.mono (by decide)) hg tk (by rfl) q__law_bent k__law_bent (sa_cons (sr_v 1) (sa_cons (sr_t1 cl_tuple (by rfl) z_tuple PyProof.Rows.boot_tuple (sr_v 4)) (sa_nil)))) (sa_cons (sr_call o__law_odd (hr.mono (by decide)) hg tk (by rfl) q__law_odd k__law_odd (sa_cons (sr_v 1) (sa_nil))) (sa_cons (sr_op os_add (sr_v 4) (sr_v 4)) (sa_cons (sr_lst (sa_cons (sr_v 4) (sa_nil))) (sa_nil)))))))) (sg_n 7 hN) (ss_one (ss_if (st_not (st_B (sr_call o__law_is_right (hr.mono (by decide)) hg tk (by rfl) q__law_is_right k__law_is_right (sa_cons (sr_v 7) (sa_nil))))) (ss_one (ss_ret (sr_bl))) (ss_nil))))
          (ss_cons (ss_set 8 hN (sr_sl (sr_op os_add (sr_comp rfl hN (si_seq (sr_v 4)) (own := [("_law_low", 9), ("_law_high", 10)]) (ts := [9, 10]) (by refine (show BlkOk ["_law_script", "_law_pen_here", "_law_turn", "_law_many", "_law_duos", "_law_k", "_law_other", "_law_value_here", "_law_some", "_law_low", "_law_high", "_law_due"] (defScope tp_law) _ _ from ?_); exact ⟨rfl, by decide +kernel, by decide +kernel, by first | decide +kernel | (repeat (first | exact List.forall_mem_nil _ | refine List.forall_mem_cons.mpr ⟨by intro h; first | exact Or.inl rfl | exact Or.inr rfl | exact absurd h (by decide), ?_⟩)), by first | decide +kernel | (dsimp only; decide +kernel)⟩) (by first | decide | (dsimp only; decide)) (fun _ _ _ _ _ => sg_tup rfl (sgs_cons (sg_n 9 hN) (sgs_cons (sg_n 10 hN) (sgs_nil)))) (fun _ _ _ _ _ => sts_one (st_cmp ob_isnot2 (sr_v 9) (sr_non) (by rfl))) (fun _ _ _ _ _ => sr_v 9)) (sr_lst (sa_cons (sr_tup (sa_cons (sr_int) (sa_cons (sr_int) (sa_nil)))) (sa_nil)))) (sp_no) (sp_pt (sr_int))))
          (ss_cons (ss_for (passes_of rfl) rfl (si_seq (sr_lst (sa_cons (sr_v 8) (sa_cons (sr_t1 cl_tuple (by rfl) z_tuple PyProof.Rows.boot_tuple (sr_v 8)) (sa_cons (sr_call o__law_bent (hr.mono (by decide)) hg tk (by rfl) q__law_bent k__law_bent (sa_cons (sr_v 1) (sa_cons (sr_v 8) (sa_nil)))) (sa_cons (sr_op os_add (sr_op os_add (sr_v 8) (sr_v 8)) (sr_v 8)) (sa_cons (sr_v 4) (sa_cons (sr_call o__law_odd (hr.mono (by decide)) hg tk (by rfl) q__law_odd k__law_odd (sa_cons (sr_v 1) (sa_nil))) (sa_nil))))))))) (sg_n 7 hN) (ss_one (ss_if (st_not (st_B (sr_call o__law_is_exact (hr.mono (by decide)) hg tk (by rfl) q__law_is_exact k__law_is_exact (sa_cons (sr_v 7) (sa_nil))))) (ss_one (ss_ret (sr_bl))) (ss_nil))))
          (ss_cons (ss_for (passes_of rfl) rfl (si_seq (sr_lst (sa_cons (sr_v 3) (sa_cons (sr_int) (sa_cons (sr_int) (sa_cons (sr_int) (sa_cons (sr_int) (sa_cons (sr_un us_neg (sr_int)) (sa_cons (sr_bl) (sa_cons (sr_non) (sa_cons (sr_str) (sa_cons (sr_call o__law_odd (hr.mono (by decide)) hg tk (by rfl) q__law_odd k__law_odd (sa_cons (sr_v 1) (sa_nil))) (sa_nil))))))))))))) (sg_n 7 hN) (ss_cons (ss_set 11 hN (sr_tup (sa_cons (sr_str) (sa_cons (sr_b1 (cl_repr w_sys hg hv) (by rfl) z_repr PyProof.Rows.boot_repr (sr_v 7)) (sa_cons (sr_bl) (sa_nil))))))
          (ss_cons (ss_if (PW.pt (sw_and (st_B (sr_b2 cl_isi (by rfl) z_isinstance PyProof.Rows.boot_isinstance (sr_v 7) (sr_ty (by rfl) z_int PyProof.Rows.boot_int))) (sw_and (st_not (st_B (sr_b2 cl_isi (by rfl) z_isinstance PyProof.Rows.boot_isinstance (sr_v 7) (sr_ty (by rfl) z_bool PyProof.Rows.boot_bool)))) (sw_and1 (st_ch ob_lt ob_lt (sr_int) (sr_v 7) (sr_int) (by with_unfolding_all rfl)))))) (ss_one (ss_set 11 hN (sr_b1 (cl_repr w_sys hg hv) (by rfl) z_repr PyProof.Rows.boot_repr (sr_op os_mulA (sr_tup (sa_cons (sr_tup (sa_cons (sr_non) (sa_cons (sr_non) (sa_nil)))) (sa_nil))) (sr_v 7))))) (ss_nil))
          (ss_one (ss_if (st_cmp (ob_ne hq) (sr_call o__law_none (hr.mono (by decide)) hg tk (by rfl) q__law_none k__law_none (sa_cons (sr_v 7) (sa_nil))) (sr_v 11) (by rfl)) (ss_one (ss_ret (sr_bl))) (ss_nil))))))
          (ss_one (ss_if (st_not (st_B (sr_call o__law_copied (hr.mono (by decide)) hg tk (by rfl) q__law_copied k__law_copied (sa_cons (sr_v 4) (sa_nil))))) (ss_one (ss_ret (sr_bl))) (ss_nil))))))))))))
          (ss_one (ss_ret (sr_bl))))
end
end A73
set_option Elab.async false
set_option linter.all false
set_option maxRecDepth 100000
set_option maxHeartbeats 2000000
set_option exponentiation.threshold 9000
namespace Lb
open PySem PySem.Spec L2 PM
/-! ### fractions as rational numbers -/
def fr (q : Rat) : D := .tup [.int q.num, .int (q.den : Int)]
theorem gcd_loop (s : List Cell) : ∀ (n a b : Nat), b < n → mWhileN n (mCmp opGt (mV 1) (mL (.int 0))) (mPar 0 1 (mV 1) (mOp opMod (mV 0) (mV 1))) ⟨[.sh (.int a), .sh (.int b)], s⟩ = .nx ⟨[.sh (.int (Nat.gcd a b)), .sh (.int 0)], s⟩
  | 0, _, _, h => absurd h (Nat.not_lt_zero _)
  | n + 1, a, 0, _ => by
    rw [r_whiles]
    simp [mV]
  | n + 1, a, b + 1, h => by
    have h2 : a % (b + 1) < b + 1 := Nat.mod_lt _ (Nat.succ_pos _)
    have e : ((a : Int) % ((b : Int) + 1)) = ((a % (b + 1) : Nat) : Int) := (Int.natCast_emod a (b + 1)).symm
    have hp : (0 : Int) < (b : Int) + 1 := by omega
    have ih := gcd_loop s n (b + 1) (a % (b + 1)) (by omega)
    rw [Nat.gcd_comm (b + 1), ← Nat.gcd_rec, Nat.gcd_comm] at ih
    rw [r_whiles]
    simp [mV, hp]
    rw [e]
    exact ih
theorem s_divisor (a b : Int) (s : List Cell) : F_divisor [.int a, .int b] s = .ret (.sh (.int (Int.gcd a b : Nat))) s := by
  simp [F_divisor, runF, m_divisor, entry, mV, natAt, gcd_loop]
  rfl
theorem log2_le {k : Nat} {n : Nat} (h : n < 2 ^ k) (hk : k < 9000) : n.log2 < 9000 := by
  by_cases h0 : n = 0
  · rw [h0]; decide
  · exact Nat.lt_trans ((Nat.log2_lt h0).mpr h) hk
theorem fr_divInt (n d : Int) (h0 : d ≠ 0) : fr (Rat.divInt n d) = .tup [.int (d.sign * n / (Int.gcd n d : Nat)), .int (d.natAbs / (Int.gcd n d : Nat))] := by
  unfold fr
  rw [Rat.num_divInt, Rat.den_divInt, if_neg h0, Int.gcd_comm d n]
  simp
/-! sizes -/
def Bd (k : Nat) (q : Rat) : Prop := q.num.natAbs < 2 ^ k ∧ q.den < 2 ^ k
theorem Bd.mono {k l : Nat} {q : Rat} (h : Bd k q) (hl : k ≤ l) : Bd l q := ⟨Nat.lt_of_lt_of_le h.1 (Nat.pow_le_pow_right (by decide) hl), Nat.lt_of_lt_of_le h.2 (Nat.pow_le_pow_right (by decide) hl)⟩
theorem ediv_le (a : Int) (g : Nat) (hg : 0 < g) (hd : (g : Int) ∣ a) : (a / (g : Int)).natAbs ≤ a.natAbs := by
  obtain ⟨c, rfl⟩ := hd
  rw [Int.mul_ediv_cancel_left _ (by omega), Int.natAbs_mul]
  exact Nat.le_mul_of_pos_left _ (by simpa using hg)
theorem bd_divInt {k : Nat} {n d : Int} (h0 : d ≠ 0) (hn : n.natAbs < 2 ^ k) (hd : d.natAbs < 2 ^ k) : Bd k (Rat.divInt n d) := by
  have g0 : 0 < Int.gcd d n := Int.gcd_pos_of_ne_zero_left _ h0
  constructor
  · rw [Rat.num_divInt]
    refine Nat.lt_of_le_of_lt (ediv_le _ _ g0 ?_) ?_
    · exact Int.dvd_mul_of_dvd_right (Int.gcd_dvd_right ..)
    · rw [Int.natAbs_mul, Int.natAbs_sign_of_ne_zero h0, Nat.one_mul]
      exact hn
  · rw [Rat.den_divInt, if_neg h0]
    exact Nat.lt_of_le_of_lt (Nat.div_le_self _ _) hd
/-! equality -/
section
variable {p q : Rat} {k l : Nat}
theorem fr_inj (h : p.num = q.num ∧ (p.den : Int) = q.den) : p = q := Rat.ext h.1 (by have := h.2; omega)
@[simp] theorem eq_fr : opEq (fr p) (fr q) = some (decide (p = q)) := by
  have e : ((p.num == q.num) && ((p.den : Int) == (q.den : Int))) = decide (p = q) := by
    by_cases h : p = q
    · subst h; simp
    · rw [decide_eq_false h]
      refine Bool.eq_false_iff.mpr fun z => h ?_
      simp only [Bool.and_eq_true, beq_iff_eq] at z
      exact fr_inj z
  simp [opEq, opEq0, fr, D.py, D.pys, SeqAt.shaped, PyData.canLay0, PyData.canLayAll0, PyData.depth, PyData.depthAll, PyData.eqv, PyData.eqvAll]
  first | exact e | (rw [← e]; simp)
@[simp] theorem ne_fr : opNe (fr p) (fr q) = some (!decide (p = q)) := by simp [opNe]
@[simp] theorem eq_i {a b : Int} : opEq (.int a) (.int b) = some (decide (a = b)) := by
  simp [opEq, opEq0, D.py, SeqAt.shaped, PyData.canLay0, PyData.depth, PyData.eqv]
  rfl
@[simp] theorem eq_bl {a b : Bool} : opEq (.bl a) (.bl b) = some (decide (a = b)) := by
  simp [opEq, opEq0, D.py, SeqAt.shaped, PyData.canLay0, PyData.depth, PyData.eqv]
  rfl
@[simp] theorem ne_i {a b : Int} : opNe (.int a) (.int b) = some (!decide (a = b)) := by simp [opNe]
@[simp] theorem ne_bl {a b : Bool} : opNe (.bl a) (.bl b) = some (!decide (a = b)) := by simp [opNe]
@[simp] theorem ne_nil : opNe (.lst []) (.lst []) = some false := by
  simp [opNe, opEq, opEq0, D.py, D.pys, SeqAt.shaped, PyData.canLay0, PyData.canLayAll0, PyData.depth, PyData.depthAll, PyData.eqv, PyData.eqvAll]
@[simp] theorem view_fr {st : State} : view st (.sh (fr q)) = some (fr q) := rfl
theorem s_isint (i : Int) (s : List Cell) : F_is_integer [.int i] s = .ret (.sh (.bl true)) s := by
  have e1 : opIsi (.int i) (.val (.ty "int")) = some (.sh (.bl true)) := by simp [opIsi, opKind]; decide +kernel
  have e2 : opIsi (.int i) (.val (.ty "bool")) = some (.sh (.bl false)) := by simp [opIsi, opKind]; decide +kernel
  simp [F_is_integer, runF, m_is_integer, entry, mV, e1, e2]
theorem s_istup (a b : D) (s : List Cell) : F_is_tuple_of [.tup [a, b], .int 2] s = .ret (.sh (.bl true)) s := by
  have e1 : opIsi (.tup [a, b]) (.val (.ty "tuple")) = some (.sh (.bl true)) := by simp [opIsi, opKind]; decide +kernel
  have e2 : opLen (.tup [a, b]) = some (.sh (.int 2)) := by simp [opLen, lim]
  simp [F_is_tuple_of, runF, m_is_tuple_of, entry, mV, e1, e2]
theorem gcd1 (q : Rat) : Int.gcd q.num q.den = 1 := by
  have := q.reduced
  unfold Nat.Coprime at this
  simpa [Int.gcd] using this
theorem s_isfr (q : Rat) (s : List Cell) : F_is_fraction [fr q] s = .ret (.sh (.bl true)) s := by
  have h : 0 < q.den := q.den_pos
  simp [F_is_fraction, runF, m_is_fraction, entry, mV, fr, s_istup, s_isint, s_divisor, gcd1, h]
end
end Lb
set_option Elab.async false
set_option linter.all false
set_option maxRecDepth 100000
set_option maxHeartbeats 4000000
namespace D1
open PySem PySem.Spec L2 PM Lb
/-! ### the draws -/
def kCe : Key := .inr "cells"
def kUs : Key := .inr "used"
def kLe : Key := .inr "left"
def pen (cs : List Int) (u l : Int) : List (Key × D) := [(kCe, .lst (cs.map .int)), (kUs, .int u), (kLe, .int l)]
theorem ne1 : ¬ kCe = kUs := by decide
theorem ne2 : ¬ kCe = kLe := by decide
theorem ne3 : ¬ kUs = kLe := by decide
section
variable {cs : List Int} {u l : Int}
@[simp] theorem ak1 : asKey (.str (Str.ofString "cells")) = some kCe := rfl
@[simp] theorem ak2 : asKey (.str (Str.ofString "used")) = some kUs := rfl
@[simp] theorem ak3 : asKey (.str (Str.ofString "left")) = some kLe := rfl
@[simp] theorem dg1 : dget (pen cs u l) kCe = some (.lst (cs.map .int)) := by simp [dget, pen]
@[simp] theorem dg2 : dget (pen cs u l) kUs = some (.int u) := by simp [dget, pen, ne1]
@[simp] theorem dg3 : dget (pen cs u l) kLe = some (.int l) := by simp [dget, pen, ne2, ne3]
@[simp] theorem dp2 {x : Int} : dput (pen cs u l) kUs (.int x) = pen cs x l := by simp [dput, pen, ne1, ne3, Ne.symm ne3]
@[simp] theorem dp3 {x : Int} : dput (pen cs u l) kLe (.int x) = pen cs u x := by simp [dput, pen, ne2, ne3]
theorem up_dc {n : Nat} {env : List Slot} {store : List Cell} {kvs : List (Key × D)} {d : D} {k : Key} {kd : D} (h : store[n]? = some (.dc kvs)) (hk : asKey kd = some k) (hl : kvs.length < lim) : upC (putC kd d) (.sh (.obj n)) ⟨env, store⟩ = some (.non, ⟨env, store.set n (.dc (dput kvs k d))⟩) := by
  simp [upC, h, putC, hl, hk]
theorem pen_len : (pen cs u l).length < lim := by simp [pen, lim]
theorem ne_e (cs : List Int) : opNe (.lst (cs.map .int)) (.lst []) = some (!decide (cs = [])) := by
  rw [opNe_l0]
  cases cs <;> simp
end
theorem sml_b {x : Int} (h : -1000000000000000000000000000000 < x) (h2 : x < 1000000000000000000000000000000000000000) : sml x = true := by
  refine sml_of (k := 200) ?_ (by decide)
  have e : (2 : Nat) ^ 200 = 1606938044258990275541962092341162602522202993782792835301376 := by decide +kernel
  omega
def drawB : Nat → Int
  | 0 => 50000000
  | k + 1 => 50000000 * drawB k
theorem drawB_pos : ∀ k, 50000000 ≤ drawB k
  | 0 => by decide
  | k + 1 => by
    have := drawB_pos k
    show 50000000 ≤ 50000000 * drawB k
    omega
theorem o18 : opPow (.int 10) (.int 18) = some (.sh (.int 1000000000000000000)) := rfl
theorem draw_step (Frec : Fn) (B : Int) (hB : 0 ≤ B) (many : Int) (n : Nat) (h0 : 0 < many) (hlg : many.natAbs < 2 ^ 8000)
    (hrec : 60000000 < many → ∀ (store : List Cell) (cs : List Int) (u l : Int), store[n]? = some (.dc (pen cs u l)) → cs.length ≤ 63 → 0 ≤ u → u + B ≤ 1000000000 → 0 ≤ l → ∃ r u' l', Frec [.obj n, .int (many / 60000000 + 1)] store = .ret (.sh (.int r)) (store.set n (.dc (pen cs u' l'))) ∧ 0 ≤ r ∧ r < many / 60000000 + 1 ∧ u ≤ u' ∧ u' ≤ u + B ∧ 0 ≤ l')
    (store : List Cell) (cs : List Int) (u l : Int) (hs : store[n]? = some (.dc (pen cs u l))) (hc : cs.length ≤ 63) (hu : 0 ≤ u) (hu2 : u + B ≤ 999999999) (hl : 0 ≤ l) :
    ∃ r u' l', runF (m__law_draw Frec) 4 [.obj n, .int many] store = .ret (.sh (.int r)) (store.set n (.dc (pen cs u' l'))) ∧ 0 ≤ r ∧ r < many ∧ u ≤ u' ∧ u' ≤ u + B + 1 ∧ 0 ≤ l' := by
  have hlog : many.natAbs.log2 < 9000 := log2_le hlg (by decide)
  have hn : n < store.length := (List.getElem?_eq_some_iff.mp hs).1
  have hset : ∀ c, (store.set n c)[n]? = some c := fun c => List.getElem?_set_self hn
  have v1 : ∀ env, view ⟨env, store⟩ (.sh (.obj n)) = some (.dct (pen cs u l)) := fun env => view_dc hs
  have v2 : ∀ env kvs, view ⟨env, store.set n (.dc kvs)⟩ (.sh (.obj n)) = some (.dct kvs) := fun env kvs => view_dc (hset _)
  have u1 : ∀ env kd k d, asKey kd = some k → upC (putC kd d) (.sh (.obj n)) ⟨env, store⟩ = some (.non, ⟨env, store.set n (.dc (dput (pen cs u l) k d))⟩) := fun env kd k d h => up_dc hs h pen_len
  have u2 : ∀ env kd k d x y, asKey kd = some k → upC (putC kd d) (.sh (.obj n)) ⟨env, store.set n (.dc (pen cs x y))⟩ = some (.non, ⟨env, store.set n (.dc (dput (pen cs x y) k d))⟩) := fun env kd k d x y h => by
    rw [up_dc (hset _) h pen_len, List.set_set]
  by_cases hl0 : 0 < l
  · refine ⟨l % many, u, l / many, ?_, Int.emod_nonneg _ (by omega), Int.emod_lt_of_pos _ h0, by omega, by omega, Int.ediv_nonneg hl (by omega)⟩
    have o1 := opMod_i (i := l) h0
    have o2 := opFdv_i (i := l) h0 hlog
    have w := u1 [.sh (.obj n), .sh (.int many), .sh (.int (l % many)), .un, .un, .un] (.str (Str.ofString "left")) kLe (.int (l / many)) rfl
    simp [runF, m__law_draw, entry, mV, v1, v2, hl0, o1, o2, w]
  · have w1 := u1 [.sh (.obj n), .sh (.int many), .un, .sh (.int u), .un, .un] (.str (Str.ofString "used")) kUs (.int (u + 1)) rfl
    have s1 := sml_b (x := u) (by omega) (by omega)
    have s43 : sml 43 = true := by decide
    have s30 : sml 30011 = true := by decide
    have s17 : sml 178481 = true := by decide
    have s16 : sml 16769023 = true := by decide
    have s5 : sml 5 = true := by decide
    have s6 : sml 60000000 = true := by decide
    have s11 : sml 1103515 = true := by decide
    have s3 := sml_b (x := 30011 * u) (by omega) (by omega)
    have lc : opLen (.lst (cs.map D.int)) = some (.sh (.int ((cs.length : Nat) : Int))) := by simp [opLen]
    have ne0 := ne_e cs
    -- the cell
    obtain ⟨c, hcell⟩ : ∃ c : Int, ((cs = [] ∧ c = 43 * u + 7) ∨ (cs ≠ [] ∧ opMod (.int u) (.int ((cs.length : Nat) : Int)) = some (.sh (.int (u % cs.length))) ∧ opIx (.lst (cs.map D.int)) (.int (u % cs.length)) = some (.sh (.int c)))) := by
      by_cases he : cs = []
      · exact ⟨_, .inl ⟨he, rfl⟩⟩
      · have hp : 0 < cs.length := List.length_pos_iff.mpr he
        have hlt : u % (cs.length : Int) < cs.length := Int.emod_lt_of_pos _ (by omega)
        have hge : 0 ≤ u % (cs.length : Int) := Int.emod_nonneg _ (by omega)
        obtain ⟨i, hi⟩ := Int.eq_ofNat_of_zero_le hge
        have hi2 : i < cs.length := by omega
        refine ⟨cs[i], .inr ⟨he, opMod_i (by omega), ?_⟩⟩
        rw [opIx_l, hi, atI_nat (j := i) (v := D.int cs[i]) (by rw [List.getElem?_map, List.getElem?_eq_getElem hi2]; rfl)]
        rfl
    -- the blend
    have b1 : 0 ≤ c % 4294967231 ∧ c % 4294967231 < 4294967231 := ⟨Int.emod_nonneg _ (by decide), Int.emod_lt_of_pos _ (by decide)⟩
    have t1 := sml_b (x := c % 4294967231) (by omega) (by omega)
    have o1 := opMod_i (i := c) (j := 4294967231) (by decide)
    obtain ⟨x1, e1⟩ : ∃ x, x = c % 4294967231 * 1103515 + 30011 * u * u := ⟨_, rfl⟩
    have b2 : 0 ≤ (x1 + 178481 * u + 23) % 4294967197 ∧ (x1 + 178481 * u + 23) % 4294967197 < 4294967197 := ⟨Int.emod_nonneg _ (by decide), Int.emod_lt_of_pos _ (by decide)⟩
    have o2 := opMod_i (i := x1 + 178481 * u + 23) (j := 4294967197) (by decide)
    obtain ⟨x2, e2⟩ : ∃ x, x = (x1 + 178481 * u + 23) % 4294967197 := ⟨_, rfl⟩
    rw [← e2] at b2 o2
    have t2 := sml_b (x := x2) (by omega) (by omega)
    obtain ⟨x3, e3⟩ : ∃ x, x = (x2 * x2 + 16769023 * x2 + 5 * u + 7) % 4294967189 := ⟨_, rfl⟩
    have o3 := opMod_i (i := x2 * x2 + 16769023 * x2 + 5 * u + 7) (j := 4294967189) (by decide)
    have b3 : 0 ≤ (x2 * x2 + 16769023 * x2 + 5 * u + 7) % 4294967189 ∧ (x2 * x2 + 16769023 * x2 + 5 * u + 7) % 4294967189 < 4294967189 := ⟨Int.emod_nonneg _ (by decide), Int.emod_lt_of_pos _ (by decide)⟩
    rw [← e3] at b3 o3
    have t3 := sml_b (x := x3) (by omega) (by omega)
    have t4 := sml_b (x := x3 + 28629151) (by omega) (by omega)
    have o4 := opMod_i (i := x3 * (x3 + 28629151)) (j := 4294967291) (by decide)
    have b4 : 0 ≤ x3 * (x3 + 28629151) % 4294967291 := Int.emod_nonneg _ (by decide)
    obtain ⟨x4, e4⟩ : ∃ x, x = x3 * (x3 + 28629151) % 4294967291 := ⟨_, rfl⟩
    rw [← e4] at b4 o4
    have o5 := opFdv_i (i := x4) (j := 64) (by decide) (by decide)
    obtain ⟨x5, e5⟩ : ∃ x, x = x4 / 64 := ⟨_, rfl⟩
    rw [← e5] at o5
    have m1 : opMul (.int (c % 4294967231)) (.int 1103515) = some (.sh (.int (c % 4294967231 * 1103515))) := opMul_i t1 s11
    have m2 : opMul (.int 30011) (.int u) = some (.sh (.int (30011 * u))) := opMul_i s30 s1
    have m3 : opMul (.int (30011 * u)) (.int u) = some (.sh (.int (30011 * u * u))) := opMul_i s3 s1
    have m4 : opMul (.int 178481) (.int u) = some (.sh (.int (178481 * u))) := opMul_i s17 s1
    have m5 : opMul (.int x2) (.int x2) = some (.sh (.int (x2 * x2))) := opMul_i t2 t2
    have m6 : opMul (.int 16769023) (.int x2) = some (.sh (.int (16769023 * x2))) := opMul_i s16 t2
    have m7 : opMul (.int 5) (.int u) = some (.sh (.int (5 * u))) := opMul_i s5 s1
    have m8 : opMul (.int x3) (.int (x3 + 28629151)) = some (.sh (.int (x3 * (x3 + 28629151)))) := opMul_i t3 t4
    have m9 : opMul (.int 43) (.int u) = some (.sh (.int (43 * u))) := opMul_i s43 s1
    have a1 : opAdd (.int (c % 4294967231 * 1103515)) (.int (30011 * u * u)) = some (.sh (.int x1)) := by rw [e1]; rfl
    -- a great cell
    by_cases hg : u < cs.length ∧ (1000000000000000000 : Int) ≤ (c.natAbs : Int)
    · have he : cs ≠ [] := fun z => by rw [z] at hg; simp at hg; omega
      obtain ⟨z, _⟩ | ⟨_, q1, q2⟩ := hcell
      · exact absurd z he
      · obtain ⟨g1, g2⟩ := hg
        have f1 := opMod_i (i := (c.natAbs : Int) - 1000000000000000000) h0
        have f2 := opFdv_i (i := (c.natAbs : Int) - 1000000000000000000) h0 hlog
        have w2 := u2 [.sh (.obj n), .sh (.int many), .un, .sh (.int u), .sh (.int c), .un] (.str (Str.ofString "left")) kLe (.int (((c.natAbs : Int) - 1000000000000000000) / many)) (u + 1) l rfl
        refine ⟨((c.natAbs : Int) - 1000000000000000000) % many, u + 1, ((c.natAbs : Int) - 1000000000000000000) / many, ?_, Int.emod_nonneg _ (by omega), Int.emod_lt_of_pos _ h0, by omega, by omega, Int.ediv_nonneg (by omega) (by omega)⟩
        have ne1 : opNe (.lst (cs.map .int)) (.lst []) = some true := by rw [ne0, decide_eq_false he]; rfl
        have ab : opAbs (.int c) = some (.sh (.int (c.natAbs : Int))) := opAbs_i
        generalize (c.natAbs : Int) = ca at *
        simp [-opMul_i, runF, m__law_draw, entry, mV, v1, v2, hl0, w1, lc, ne1, q1, q2, m9, g1, g2, ab, o18, f1, f2, w2]
    · have ab : opAbs (.int c) = some (.sh (.int (c.natAbs : Int))) := opAbs_i
      have hg' : (cs.length : Int) > u → ¬ (1000000000000000000 : Int) ≤ (c.natAbs : Int) := fun z y => hg ⟨z, y⟩
      clear hg
      generalize (c.natAbs : Int) = ca at *
      -- a great number
      have fin : ∃ y u' l', (0 ≤ l' ∧ u ≤ u' ∧ u' ≤ u + B + 1) ∧
          ((¬ 60000000 < many ∧ y = x5 ∧ u' = u + 1 ∧ l' = l) ∨
           (60000000 < many ∧ ∃ r, y = x5 + 60000000 * r ∧ sml r = true ∧ Frec [.obj n, .int (many / 60000000 + 1)] (store.set n (.dc (pen cs (u + 1) l))) = .ret (.sh (.int r)) (store.set n (.dc (pen cs u' l'))))) := by
        by_cases hb : 60000000 < many
        · obtain ⟨r, u', l', h1, h2, h3, h4, h5, h6⟩ := hrec hb _ cs (u + 1) l (hset _) hc (by omega) (by omega) hl
          rw [List.set_set] at h1
          refine ⟨_, u', l', ⟨h6, by omega, by omega⟩, .inr ⟨hb, r, rfl, sml_of (k := 8000) ?_ (by decide), h1⟩⟩
          have : r.natAbs ≤ many.natAbs := by omega
          exact Nat.lt_of_le_of_lt this hlg
        · exact ⟨_, u + 1, l, ⟨hl, by omega, by omega⟩, .inl ⟨hb, rfl, rfl, rfl⟩⟩
      obtain ⟨y, u', l', ⟨k1, k2, k3⟩, fin⟩ := fin
      refine ⟨y % many, u', l', ?_, Int.emod_nonneg _ (by omega), Int.emod_lt_of_pos _ h0, k2, k3, k1⟩
      have oy := opMod_i (i := y) h0
      have f6 := opFdv_i (i := many) (j := 60000000) (by decide) (by decide)
      rcases hcell with ⟨he, ec⟩ | ⟨he, q1, q2⟩
      · have ne1 : opNe (.lst (cs.map .int)) (.lst []) = some false := by rw [ne0, decide_eq_true he]; rfl
        have h1 : ¬ u < (cs.length : Int) := by rw [he]; simp; omega
        have a9 : opAdd (.int (43 * u)) (.int 7) = some (.sh (.int c)) := by rw [ec]; rfl
        clear ec he e1 e2 e3 e4 e5 ne0
        rcases fin with ⟨hb, rfl, rfl, rfl⟩ | ⟨hb, r, rfl, sr, rec⟩
        · simp [-opMul_i, -opMod_i, -opFdv_i, runF, m__law_draw, entry, mV, v1, v2, hl0, w1, lc, ne1, m9, a9, h1, o1, m1, m2, m3, a1, m4, o2, m5, m6, m7, o3, m8, o4, o5, hb, oy]
        · have m10 : opMul (.int 60000000) (.int r) = some (.sh (.int (60000000 * r))) := opMul_i s6 sr
          simp [-opMul_i, -opMod_i, -opFdv_i, runF, m__law_draw, entry, mV, v1, v2, hl0, w1, lc, ne1, m9, a9, h1, o1, m1, m2, m3, a1, m4, o2, m5, m6, m7, o3, m8, o4, o5, hb, oy, f6, rec, m10]
      · have ne1 : opNe (.lst (cs.map .int)) (.lst []) = some true := by rw [ne0, decide_eq_false he]; rfl
        clear he e1 e2 e3 e4 e5 ne0
        by_cases h1 : u < (cs.length : Int)
        · have h2 := hg' h1
          rcases fin with ⟨hb, rfl, rfl, rfl⟩ | ⟨hb, r, rfl, sr, rec⟩
          · simp [-opMul_i, -opMod_i, -opFdv_i, runF, m__law_draw, entry, mV, v1, v2, hl0, w1, lc, ne1, q1, q2, m9, h1, h2, ab, o18, o1, m1, m2, m3, a1, m4, o2, m5, m6, m7, o3, m8, o4, o5, hb, oy]
          · have m10 : opMul (.int 60000000) (.int r) = some (.sh (.int (60000000 * r))) := opMul_i s6 sr
            simp [-opMul_i, -opMod_i, -opFdv_i, runF, m__law_draw, entry, mV, v1, v2, hl0, w1, lc, ne1, q1, q2, m9, h1, h2, ab, o18, o1, m1, m2, m3, a1, m4, o2, m5, m6, m7, o3, m8, o4, o5, hb, oy, f6, rec, m10]
        · rcases fin with ⟨hb, rfl, rfl, rfl⟩ | ⟨hb, r, rfl, sr, rec⟩
          · simp [-opMul_i, -opMod_i, -opFdv_i, runF, m__law_draw, entry, mV, v1, v2, hl0, w1, lc, ne1, q1, q2, m9, h1, ab, o18, o1, m1, m2, m3, a1, m4, o2, m5, m6, m7, o3, m8, o4, o5, hb, oy]
          · have m10 : opMul (.int 60000000) (.int r) = some (.sh (.int (60000000 * r))) := opMul_i s6 sr
            simp [-opMul_i, -opMod_i, -opFdv_i, runF, m__law_draw, entry, mV, v1, v2, hl0, w1, lc, ne1, q1, q2, m9, h1, ab, o18, o1, m1, m2, m3, a1, m4, o2, m5, m6, m7, o3, m8, o4, o5, hb, oy, f6, rec, m10]
theorem drawB_0 : drawB 0 = 50000000 := rfl
theorem drawB_s (k : Nat) : drawB (k + 1) = 50000000 * drawB k := rfl
def DrawOk (k : Nat) (F : Fn) : Prop := ∀ (many : Int) (n : Nat), 0 < many → many ≤ drawB k → many.natAbs < 2 ^ 8000 → ∀ (store : List Cell) (cs : List Int) (u l : Int), store[n]? = some (.dc (pen cs u l)) → cs.length ≤ 63 → 0 ≤ u → u + (k : Int) ≤ 999999999 → 0 ≤ l →
    ∃ r u' l', F [.obj n, .int many] store = .ret (.sh (.int r)) (store.set n (.dc (pen cs u' l'))) ∧ 0 ≤ r ∧ r < many ∧ u ≤ u' ∧ u' ≤ u + (k : Int) + 1 ∧ 0 ≤ l'
theorem draw_0 : DrawOk 0 (F__law_draw 1) := by
  intro many n h0 hb hlg store cs u l hs hc hu hu2 hl
  rw [drawB_0] at hb
  obtain ⟨r, u', l', h1, h2, h3, h4, h5, h6⟩ := draw_step (F__law_draw 0) 0 (by decide) many n h0 hlg (fun z => by omega) store cs u l hs hc hu (by omega) hl
  exact ⟨r, u', l', h1, h2, h3, h4, by omega, h6⟩
theorem draw_s (k : Nat) (ih : DrawOk k (F__law_draw (k + 1))) : DrawOk (k + 1) (F__law_draw (k + 2)) := by
  intro many n h0 hb hlg store cs u l hs hc hu hu2 hl
  rw [drawB_s] at hb
  have dp := drawB_pos k
  have hrec : 60000000 < many → ∀ (store : List Cell) (cs : List Int) (u l : Int), store[n]? = some (.dc (pen cs u l)) → cs.length ≤ 63 → 0 ≤ u → u + ((k : Int) + 1) ≤ 1000000000 → 0 ≤ l → ∃ r u' l', F__law_draw (k + 1) [.obj n, .int (many / 60000000 + 1)] store = .ret (.sh (.int r)) (store.set n (.dc (pen cs u' l'))) ∧ 0 ≤ r ∧ r < many / 60000000 + 1 ∧ u ≤ u' ∧ u' ≤ u + ((k : Int) + 1) ∧ 0 ≤ l' := by
    intro z store cs u l hs hc hu hu2 hl
    obtain ⟨r, u', l', h1, h2, h3, h4, h5, h6⟩ := ih (many / 60000000 + 1) n (by omega) (by omega) (Nat.lt_of_le_of_lt (by omega : (many / 60000000 + 1).natAbs ≤ many.natAbs) hlg) store cs u l hs hc hu (by omega) hl
    exact ⟨r, u', l', h1, h2, h3, h4, by omega, h6⟩
  obtain ⟨r, u', l', h1, h2, h3, h4, h5, h6⟩ := draw_step (F__law_draw (k + 1)) ((k : Int) + 1) (by omega) many n h0 hlg hrec store cs u l hs hc hu (by omega) hl
  exact ⟨r, u', l', h1, h2, h3, h4, by omega, h6⟩
theorem s_draw : ∀ k : Nat, DrawOk k (F__law_draw (k + 1))
  | 0 => draw_0
  | k + 1 => draw_s k (s_draw k)
end D1
set_option Elab.async false
set_option linter.all false
set_option maxRecDepth 100000
set_option maxHeartbeats 4000000
set_option exponentiation.threshold 20000
namespace D1
open PySem PySem.Spec L2 PM Lb
/-- a pen stands at n: its cells, at most N used -/
def Pn (n : Nat) (cs : List Int) (N : Int) (store : List Cell) : Prop := cs.length ≤ 63 ∧ ∃ u l, store[n]? = some (.dc (pen cs u l)) ∧ 0 ≤ u ∧ u ≤ N ∧ 0 ≤ l
section
variable {n : Nat} {cs : List Int} {N : Int} {store : List Cell}
theorem drawB7 : drawB 7 = 39062500000000000000000000000000000000000000000000000000000000 := by decide +kernel
theorem p_draw (many : Int) (h0 : 0 < many) (hb : many ≤ 10000000000000000000000000000000000000000) (h : Pn n cs N store) (hN : N ≤ 900000000) :
    ∃ r store', F__law_draw 8 [.obj n, .int many] store = .ret (.sh (.int r)) store' ∧ Pn n cs (N + 8) store' ∧ 0 ≤ r ∧ r < many := by
  obtain ⟨hc, u, l, hs, hu, hu2, hl⟩ := h
  have hlg : many.natAbs < 2 ^ 8000 := by
    have e : many.natAbs < 2 ^ 200 := by
      have e : (2 : Nat) ^ 200 = 1606938044258990275541962092341162602522202993782792835301376 := by decide +kernel
      omega
    exact Nat.lt_of_lt_of_le e (Nat.pow_le_pow_right (by decide) (by decide))
  obtain ⟨r, u', l', h1, h2, h3, h4, h5, h6⟩ := s_draw 7 many n h0 (by rw [drawB7]; omega) hlg store cs u l hs hc hu (by omega) hl
  have hn : n < store.length := (List.getElem?_eq_some_iff.mp hs).1
  exact ⟨r, _, h1, ⟨hc, u', l', List.getElem?_set_self hn, by omega, by omega, h6⟩, h2, h3⟩
theorem p_pick (ds : List D) (h0 : ds ≠ []) (hb : ds.length ≤ 1000) (h : Pn n cs N store) (hN : N ≤ 900000000) :
    ∃ d store', F__law_pick [.obj n, .lst ds] store = .ret (.sh d) store' ∧ Pn n cs (N + 8) store' ∧ d ∈ ds := by
  have hp : 0 < ds.length := List.length_pos_iff.mpr h0
  obtain ⟨r, store', h1, h2, h3, h4⟩ := p_draw (many := (ds.length : Int)) (by omega) (by omega) h hN
  obtain ⟨i, hi⟩ := Int.eq_ofNat_of_zero_le h3
  have hi2 : i < ds.length := by omega
  have ix : opIx (.lst ds) (.int r) = some (.sh ds[i]) := by
    rw [opIx_l, hi, atI_nat (j := i) (v := ds[i]) (List.getElem?_eq_getElem hi2)]
    rfl
  have lc : opLen (.lst ds) = some (.sh (.int ((ds.length : Nat) : Int))) := rfl
  refine ⟨ds[i], store', ?_, h2, List.getElem_mem hi2⟩
  simp [F__law_pick, runF, m__law_pick, entry, mV, lc, h1, ix]
end
theorem low_loop (x y : D) (s : List Cell) : ∀ (n a b : Nat), b < n → mWhileN n (mCmp opGt (mV 3) (mL (.int 0))) (mPar 2 3 (mV 3) (mOp opMod (mV 2) (mV 3))) ⟨[.sh x, .sh y, .sh (.int a), .sh (.int b)], s⟩ = .nx ⟨[.sh x, .sh y, .sh (.int (Nat.gcd a b)), .sh (.int 0)], s⟩
  | 0, _, _, h => absurd h (Nat.not_lt_zero _)
  | n + 1, a, 0, _ => by
    rw [r_whiles]
    simp [mV]
  | n + 1, a, b + 1, h => by
    have h2 : a % (b + 1) < b + 1 := Nat.mod_lt _ (Nat.succ_pos _)
    have e : ((a : Int) % ((b : Int) + 1)) = ((a % (b + 1) : Nat) : Int) := (Int.natCast_emod a (b + 1)).symm
    have hp : (0 : Int) < (b : Int) + 1 := by omega
    have ih := low_loop x y s n (b + 1) (a % (b + 1)) (by omega)
    rw [Nat.gcd_comm (b + 1), ← Nat.gcd_rec, Nat.gcd_comm] at ih
    rw [r_whiles]
    simp [mV, hp]
    rw [e]
    exact ih
section
variable {n : Nat} {cs : List Int} {N : Int} {store : List Cell}
theorem s_pen (ns : List Int) (s : List Cell) : F__law_pen [.lsF (ns.map .int)] s = .ret (.sh (.obj s.length)) (s ++ [.dc (pen (ns.take 63) 0 0)]) := by
  have o1 : opSl (.lsF (ns.map .int)) none (some 63) = some (.ow (.ls ((ns.take 63).map .int))) := by
    show some (RV.ow (.ls (cut (ns.map D.int) none (some ((63 : Nat) : Int))))) = _
    rw [cut_to, List.map_take]
  obtain ⟨cs, hcs⟩ : ∃ cs, cs = ns.take 63 := ⟨_, rfl⟩
  rw [← hcs] at o1 ⊢
  have o2 : opList (.lst ((cs).map .int)) = some (.ow (.ls ((cs).map .int))) := by simp [opList, asL]
  have k : asKs [(.str (Str.ofString "cells"), .lst ((cs).map .int)), (.str (Str.ofString "used"), .int 0), (.str (Str.ofString "left"), .int 0)] = some (pen (cs) 0 0) := by simp [asKs, pen]
  have m : mergeD [] (pen (cs) 0 0) = pen (cs) 0 0 := by simp [mergeD, pen, dput, ne1, ne2, ne3]
  have di := fun st => kDi_e (st := st) k (by simp [pen])
  rw [m] at di
  simp [F__law_pen, runF, m__law_pen, entry, mV, o1, o2, di]
end
end D1
set_option Elab.async false
set_option linter.all false
set_option maxRecDepth 100000
set_option maxHeartbeats 4000000
set_option exponentiation.threshold 20000
/-! the beginning of the draws, alike in all families but the first -/
namespace D1
open PySem PySem.Spec L2 PM Lb
def drawM (a b : Int) (tail : MS) : MS :=
  mSeq (mIfS (mCmp opGt (mOp opIx (mV 0) (mL (.str "left"))) (mL (.int 0))) (mSeq (mSet 2 (mOp opMod (mOp opIx (mV 0) (mL (.str "left"))) (mV 1)))
  (mSeq (mPut (mV 0) (mL (.str "left")) (mOp opFdv (mOp opIx (mV 0) (mL (.str "left"))) (mV 1)))
  (mRet (mV 2)))) (mNx))
  (mSeq (mSet 3 (mOp opIx (mV 0) (mL (.str "used"))))
  (mSeq (mPut (mV 0) (mL (.str "used")) (mOp opAdd (mV 3) (mL (.int 1))))
  (mSeq (mSet 4 (mOp opAdd (mOp opMul (mL (.int a)) (mV 3)) (mL (.int b))))
  (mSeq (mIfS (mCmp opNe (mOp opIx (mV 0) (mL (.str "cells"))) (mLst (mNil))) (mSet 4 (mOp opIx (mOp opIx (mV 0) (mL (.str "cells"))) (mOp opMod (mV 3) (mUn opLen (mOp opIx (mV 0) (mL (.str "cells"))))))) (mNx))
  (mSeq (mIfS (mAnd (mCmp opLt (mV 3) (mUn opLen (mOp opIx (mV 0) (mL (.str "cells"))))) (mCmp opGe (mUn opAbs (mV 4)) (mOp opPow (mL (.int 10)) (mL (.int 18))))) (mSeq (mPut (mV 0) (mL (.str "left")) (mOp opFdv (mOp opSub (mUn opAbs (mV 4)) (mOp opPow (mL (.int 10)) (mL (.int 18)))) (mV 1)))
  (mRet (mOp opMod (mOp opSub (mUn opAbs (mV 4)) (mOp opPow (mL (.int 10)) (mL (.int 18)))) (mV 1)))) (mNx))
  tail)))))
theorem draw_pre (a b : Int) (ha : sml a = true) (tail : MS) (R : List PM.Slot) (many : Int) (n : Nat) (h0 : 0 < many) (hlg : many.natAbs < 2 ^ 8000)
    (store : List Cell) (cs : List Int) (u l : Int) (hs : store[n]? = some (.dc (pen cs u l))) (hc : cs.length ≤ 63) (hu : 0 ≤ u) (hu2 : u ≤ 1000000000) (hl : 0 ≤ l) :
    (∃ r u' l' env, drawM a b tail ⟨.sh (.obj n) :: .sh (.int many) :: .un :: .un :: .un :: R, store⟩ = .rt (.sh (.int r)) ⟨env, store.set n (.dc (pen cs u' l'))⟩ ∧ 0 ≤ r ∧ r < many ∧ u ≤ u' ∧ u' ≤ u + 1 ∧ 0 ≤ l') ∨
    (∃ c : Int, drawM a b tail ⟨.sh (.obj n) :: .sh (.int many) :: .un :: .un :: .un :: R, store⟩ = tail ⟨.sh (.obj n) :: .sh (.int many) :: .un :: .sh (.int u) :: .sh (.int c) :: R, store.set n (.dc (pen cs (u + 1) l))⟩) := by
  have hlog : many.natAbs.log2 < 9000 := log2_le hlg (by decide)
  have hn : n < store.length := (List.getElem?_eq_some_iff.mp hs).1
  have hset : ∀ c, (store.set n c)[n]? = some c := fun c => List.getElem?_set_self hn
  have v1 : ∀ env, view ⟨env, store⟩ (.sh (.obj n)) = some (.dct (pen cs u l)) := fun env => view_dc hs
  have v2 : ∀ env kvs, view ⟨env, store.set n (.dc kvs)⟩ (.sh (.obj n)) = some (.dct kvs) := fun env kvs => view_dc (hset _)
  have u1 : ∀ env kd k d, asKey kd = some k → upC (putC kd d) (.sh (.obj n)) ⟨env, store⟩ = some (.non, ⟨env, store.set n (.dc (dput (pen cs u l) k d))⟩) := fun env kd k d h => up_dc hs h pen_len
  have u2 : ∀ env kd k d x y, asKey kd = some k → upC (putC kd d) (.sh (.obj n)) ⟨env, store.set n (.dc (pen cs x y))⟩ = some (.non, ⟨env, store.set n (.dc (dput (pen cs x y) k d))⟩) := fun env kd k d x y h => by
    rw [up_dc (hset _) h pen_len, List.set_set]
  by_cases hl0 : 0 < l
  · have o1 := opMod_i (i := l) h0
    have o2 := opFdv_i (i := l) h0 hlog
    have w := u1 (.sh (.obj n) :: .sh (.int many) :: .sh (.int (l % many)) :: .un :: .un :: R) (.str (Str.ofString "left")) kLe (.int (l / many)) rfl
    refine .inl ⟨l % many, u, l / many, .sh (.obj n) :: .sh (.int many) :: .sh (.int (l % many)) :: .un :: .un :: R, ?_, Int.emod_nonneg _ (by omega), Int.emod_lt_of_pos _ h0, by omega, by omega, Int.ediv_nonneg hl (by omega)⟩
    simp [drawM, mV, v1, v2, hl0, o1, o2, w]
  · have w1 := u1 (.sh (.obj n) :: .sh (.int many) :: .un :: .sh (.int u) :: .un :: R) (.str (Str.ofString "used")) kUs (.int (u + 1)) rfl
    have s1 := sml_b (x := u) (by omega) (by omega)
    have lc : opLen (.lst (cs.map D.int)) = some (.sh (.int ((cs.length : Nat) : Int))) := by simp [opLen]
    have ne0 := ne_e cs
    have m9 : opMul (.int a) (.int u) = some (.sh (.int (a * u))) := opMul_i ha s1
    obtain ⟨c, hcell⟩ : ∃ c : Int, ((cs = [] ∧ c = a * u + b) ∨ (cs ≠ [] ∧ opMod (.int u) (.int ((cs.length : Nat) : Int)) = some (.sh (.int (u % cs.length))) ∧ opIx (.lst (cs.map D.int)) (.int (u % cs.length)) = some (.sh (.int c)))) := by
      by_cases he : cs = []
      · exact ⟨_, .inl ⟨he, rfl⟩⟩
      · have hp : 0 < cs.length := List.length_pos_iff.mpr he
        have hlt : u % (cs.length : Int) < cs.length := Int.emod_lt_of_pos _ (by omega)
        have hge : 0 ≤ u % (cs.length : Int) := Int.emod_nonneg _ (by omega)
        obtain ⟨i, hi⟩ := Int.eq_ofNat_of_zero_le hge
        have hi2 : i < cs.length := by omega
        refine ⟨cs[i], .inr ⟨he, opMod_i (by omega), ?_⟩⟩
        rw [opIx_l, hi, atI_nat (j := i) (v := D.int cs[i]) (by rw [List.getElem?_map, List.getElem?_eq_getElem hi2]; rfl)]
        rfl
    have ab : opAbs (.int c) = some (.sh (.int (c.natAbs : Int))) := opAbs_i
    by_cases hg : u < cs.length ∧ (1000000000000000000 : Int) ≤ (c.natAbs : Int)
    · have he : cs ≠ [] := fun z => by rw [z] at hg; simp at hg; omega
      obtain ⟨z, _⟩ | ⟨_, q1, q2⟩ := hcell
      · exact absurd z he
      · obtain ⟨g1, g2⟩ := hg
        have f1 := opMod_i (i := (c.natAbs : Int) - 1000000000000000000) h0
        have f2 := opFdv_i (i := (c.natAbs : Int) - 1000000000000000000) h0 hlog
        have w2 := u2 (.sh (.obj n) :: .sh (.int many) :: .un :: .sh (.int u) :: .sh (.int c) :: R) (.str (Str.ofString "left")) kLe (.int (((c.natAbs : Int) - 1000000000000000000) / many)) (u + 1) l rfl
        have ne1 : opNe (.lst (cs.map .int)) (.lst []) = some true := by rw [ne0, decide_eq_false he]; rfl
        refine .inl ⟨((c.natAbs : Int) - 1000000000000000000) % many, u + 1, ((c.natAbs : Int) - 1000000000000000000) / many, .sh (.obj n) :: .sh (.int many) :: .un :: .sh (.int u) :: .sh (.int c) :: R, ?_, Int.emod_nonneg _ (by omega), Int.emod_lt_of_pos _ h0, by omega, by omega, Int.ediv_nonneg (by omega) (by omega)⟩
        generalize (c.natAbs : Int) = ca at *
        simp [-opMul_i, drawM, mV, v1, v2, hl0, w1, lc, ne1, q1, q2, m9, g1, g2, ab, o18, f1, f2, w2]
    · refine .inr ⟨c, ?_⟩
      have hg' : (cs.length : Int) > u → ¬ (1000000000000000000 : Int) ≤ (c.natAbs : Int) := fun z y => hg ⟨z, y⟩
      clear hg
      generalize (c.natAbs : Int) = ca at *
      rcases hcell with ⟨he, ec⟩ | ⟨he, q1, q2⟩
      · have ne1 : opNe (.lst (cs.map .int)) (.lst []) = some false := by rw [ne0, decide_eq_true he]; rfl
        have h1 : ¬ u < (cs.length : Int) := by rw [he]; simp; omega
        have a9 : opAdd (.int (a * u)) (.int b) = some (.sh (.int c)) := by rw [ec]; rfl
        clear ec he ne0
        simp [-opMul_i, -opMod_i, -opFdv_i, drawM, mV, v1, v2, hl0, w1, lc, ne1, m9, a9, h1]
      · have ne1 : opNe (.lst (cs.map .int)) (.lst []) = some true := by rw [ne0, decide_eq_false he]; rfl
        clear he ne0
        by_cases h1 : u < (cs.length : Int)
        · have h2 := hg' h1
          simp [-opMul_i, -opMod_i, -opFdv_i, drawM, mV, v1, v2, hl0, w1, lc, ne1, q1, q2, m9, h1, h2, ab, o18]
        · simp [-opMul_i, -opMod_i, -opFdv_i, drawM, mV, v1, v2, hl0, w1, lc, ne1, q1, q2, m9, h1, ab, o18]
/-- all cells but the one at n are as they were -/
def Fr (n : Nat) (s s' : List Cell) : Prop := s'.length = s.length ∧ ∀ i, i ≠ n → s'[i]? = s[i]?
theorem Fr.refl {n : Nat} {s : List Cell} : Fr n s s := ⟨rfl, fun _ _ => rfl⟩
theorem Fr.trans {n : Nat} {a b c : List Cell} (h : Fr n a b) (k : Fr n b c) : Fr n a c := ⟨k.1.trans h.1, fun i hi => (k.2 i hi).trans (h.2 i hi)⟩
theorem fr_set {n : Nat} {s : List Cell} {c : Cell} : Fr n s (s.set n c) := ⟨by simp, fun i hi => by rw [List.getElem?_set_ne (Ne.symm hi)]⟩
theorem Pn.app {n : Nat} {cs : List Int} {N : Int} {s t : List Cell} (h : Pn n cs N s) : Pn n cs N (s ++ t) := by
  obtain ⟨h1, u, l, h2, h3⟩ := h
  exact ⟨h1, u, l, by rw [List.getElem?_append_left (List.getElem?_eq_some_iff.mp h2).1]; exact h2, h3⟩
theorem Pn.le {n : Nat} {cs : List Int} {N M : Int} {s : List Cell} (h : Pn n cs N s) (hm : N ≤ M) : Pn n cs M s := by
  obtain ⟨h1, u, l, h2, h3, h4, h5⟩ := h
  exact ⟨h1, u, l, h2, h3, by omega, h5⟩
theorem Pn.set {n m : Nat} {cs : List Int} {N : Int} {s : List Cell} {c : Cell} (h : Pn n cs N s) (hm : m ≠ n) : Pn n cs N (s.set m c) := by
  obtain ⟨h1, u, l, h2, h3⟩ := h
  exact ⟨h1, u, l, by rw [List.getElem?_set_ne hm]; exact h2, h3⟩
/-- whether a step of the last loop keeps what is wanted -/
theorem pow26 (j : Nat) : (2 : Nat) ^ (26 * (j + 1)) = 2 ^ (26 * j) * 67108864 := by
  rw [Nat.mul_succ, Nat.pow_add]
end D1
set_option Elab.async false
set_option linter.all false
set_option maxRecDepth 100000
set_option maxHeartbeats 4000000
set_option exponentiation.threshold 9000
namespace Lb
open PySem PySem.Spec L2 PM
section
variable {p q a b c : Rat} {s : List Cell}
abbrev Bk (q : Rat) : Prop := Bd 1900 q
def lo (x y : Rat) : Rat := if y < x then y else x
def hi (x y : Rat) : Rat := if x < y then y else x
@[simp] theorem seq_tup {ds : List D} : asSeq (.tup ds) = some ds := rfl
@[simp] theorem seq_lst {ds : List D} : asSeq (.lst ds) = some ds := rfl
@[simp] theorem ix_fr0 : opIx (fr q) (.int 0) = some (.sh (.int q.num)) := rfl
@[simp] theorem ix_fr1 : opIx (fr q) (.int 1) = some (.sh (.int (q.den : Int))) := rfl
end
end Lb
set_option Elab.async false
set_option linter.all false
set_option maxRecDepth 100000
set_option maxHeartbeats 4000000
set_option exponentiation.threshold 20000
namespace D4
open PySem PySem.Spec L2 PM Lb
open D1 (Fr Fr.refl Fr.trans fr_set low_loop pen Pn draw_pre drawM sml_b pow26 s_pen m__law_pen F__law_pen)
def loopB : MS := (mSeq (mSet 5 (mOp opMod (mOp opAdd (mOp opAdd (mOp opAdd (mOp opMul (mV 5) (mV 5)) (mOp opMul (mL (.int 12582917)) (mV 5))) (mOp opMul (mL (.int 11)) (mV 3))) (mL (.int 7))) (mL (.int 4294967189))))
  (mSeq (mSet 6 (mOp opAdd (mOp opMul (mV 6) (mL (.int 67108864))) (mOp opFdv (mOp opMod (mOp opMul (mV 5) (mOp opAdd (mV 5) (mL (.int 25165843)))) (mL (.int 4294967279))) (mL (.int 64)))))
  (mSet 7 (mOp opFdv (mV 7) (mL (.int 67108864))))))
def tailD : MS := (mSeq (mSet 5 (mOp opAdd (mOp opMul (mOp opMod (mV 4) (mL (.int 4294967231))) (mL (.int 1103515245))) (mOp opMul (mOp opMul (mL (.int 40013)) (mV 3)) (mV 3))))
  (mSeq (mSet 5 (mOp opMod (mOp opAdd (mOp opAdd (mV 5) (mOp opMul (mL (.int 524287)) (mV 3))) (mL (.int 29))) (mL (.int 4294967197))))
  (mSeq (mPar 6 7 (mL (.int 0)) (mV 1))
  (mSeq (mWhile (fun st => natAt st 7 + 1) (mCmp opGt (mV 7) (mL (.int 0))) loopB)
  (mRet (mOp opMod (mV 6) (mV 1)))))))
theorem draw_eq : m__law_draw = drawM 47 17 tailD := rfl
theorem loop_ok (o many c : D) (ui : Int) (hu0 : 0 ≤ ui) (hu1 : ui ≤ 1000000001) (s : List Cell) (n : Nat) : ∀ (i j : Nat) (size total blend : Int), size < n → 0 ≤ size → size < ((2 : Nat) ^ (26 * i) : Nat) → 0 ≤ total → total < ((2 : Nat) ^ (26 * j) : Nat) → i + j ≤ 400 → 0 ≤ blend → blend < 5000000000 →
    ∃ b' t', mWhileN n (mCmp opGt (mV 7) (mL (.int 0))) loopB ⟨[.sh o, .sh many, .un, .sh (.int ui), .sh c, .sh (.int blend), .sh (.int total), .sh (.int size)], s⟩ = .nx ⟨[.sh o, .sh many, .un, .sh (.int ui), .sh c, .sh (.int b'), .sh (.int t'), .sh (.int 0)], s⟩ ∧ 0 ≤ t' := by
  induction n with
  | zero => intro i j size total blend h1 h2; omega
  | succ n ih =>
    intro i j size total blend h1 h2 h3 h4 h5 h6 h7 h8
    by_cases hz : 0 < size
    · obtain ⟨i, rfl⟩ : ∃ k, i = k + 1 := by
        cases i with
        | zero => simp at h3; omega
        | succ k => exact ⟨k, rfl⟩
      have s0 := sml_b (x := blend) (by omega) (by omega)
      have su := sml_b (x := ui) (by omega) (by omega)
      have c1 : sml 12582917 = true := by decide
      have c2 : sml 11 = true := by decide
      have c3 : sml 67108864 = true := by decide
      have st : sml total = true := sml_of (k := 26 * j) (by omega) (by omega)
      have o1 := opMod_i (i := blend * blend + 12582917 * blend + 11 * ui + 7) (j := 4294967189) (by decide)
      obtain ⟨x, ex⟩ : ∃ x, x = (blend * blend + 12582917 * blend + 11 * ui + 7) % 4294967189 := ⟨_, rfl⟩
      have bx : 0 ≤ (blend * blend + 12582917 * blend + 11 * ui + 7) % 4294967189 ∧ (blend * blend + 12582917 * blend + 11 * ui + 7) % 4294967189 < 4294967189 := ⟨Int.emod_nonneg _ (by decide), Int.emod_lt_of_pos _ (by decide)⟩
      rw [← ex] at o1 bx
      have s1 := sml_b (x := x) (by omega) (by omega)
      have s2 := sml_b (x := x + 25165843) (by omega) (by omega)
      have o2 := opMod_i (i := x * (x + 25165843)) (j := 4294967279) (by decide)
      obtain ⟨y, ey⟩ : ∃ y, y = x * (x + 25165843) % 4294967279 := ⟨_, rfl⟩
      have by' : 0 ≤ x * (x + 25165843) % 4294967279 ∧ x * (x + 25165843) % 4294967279 < 4294967279 := ⟨Int.emod_nonneg _ (by decide), Int.emod_lt_of_pos _ (by decide)⟩
      rw [← ey] at o2 by'
      have o3 := opFdv_i (i := y) (j := 64) (by decide) (by decide)
      have o4 := opFdv_i (i := size) (j := 67108864) (by decide) (by decide)
      have m1 : opMul (.int blend) (.int blend) = some (.sh (.int (blend * blend))) := opMul_i s0 s0
      have m2 : opMul (.int 12582917) (.int blend) = some (.sh (.int (12582917 * blend))) := opMul_i c1 s0
      have m3 : opMul (.int 11) (.int ui) = some (.sh (.int (11 * ui))) := opMul_i c2 su
      have m4 : opMul (.int x) (.int (x + 25165843)) = some (.sh (.int (x * (x + 25165843)))) := opMul_i s1 s2
      have m5 : opMul (.int total) (.int 67108864) = some (.sh (.int (total * 67108864))) := opMul_i st c3
      have p1 := pow26 i
      have p2 := pow26 j
      have q1 : size / 67108864 < n := by omega
      have q2 : 0 ≤ size / 67108864 := by omega
      have q3 : size / 67108864 < ((2 : Nat) ^ (26 * i) : Nat) := by
        rw [p1] at h3
        generalize (2 : Nat) ^ (26 * i) = P at *
        omega
      have q4 : 0 ≤ total * 67108864 + y / 64 := by omega
      have q5 : total * 67108864 + y / 64 < ((2 : Nat) ^ (26 * (j + 1)) : Nat) := by
        rw [p2]
        generalize (2 : Nat) ^ (26 * j) = P at *
        omega
      obtain ⟨b', t', i1, i2⟩ := ih i (j + 1) (size / 67108864) (total * 67108864 + y / 64) x q1 q2 q3 q4 q5 (by omega) (by omega) (by omega)
      refine ⟨b', t', ?_, i2⟩
      clear h3 h5 p1 p2 q3 q5 ex ey
      rw [r_whiles]
      rw [← i1]
      simp [-opMul_i, -opMod_i, -opFdv_i, mV, hz, loopB, m1, m2, m3, m4, m5, o1, o2, o3, o4]
    · have : size = 0 := by omega
      subst this
      refine ⟨blend, total, ?_, h4⟩
      rw [r_whiles]
      simp [mV]
section
variable {n : Nat} {cs : List Int} {N : Int} {store : List Cell}
theorem p_draw (many : Int) (h0 : 0 < many) (hb : many.natAbs < 2 ^ 7800) (h : Pn n cs N store) (hN : N ≤ 900000000) :
    ∃ r store', F__law_draw [.obj n, .int many] store = .ret (.sh (.int r)) store' ∧ Pn n cs (N + 8) store' ∧ Fr n store store' ∧ 0 ≤ r ∧ r < many := by
  obtain ⟨hc, u, l, hs, hu, hu2, hl⟩ := h
  have hn : n < store.length := (List.getElem?_eq_some_iff.mp hs).1
  have en : entry [.obj n, .int many] 6 = .sh (.obj n) :: .sh (.int many) :: .un :: .un :: .un :: [.un, .un, .un] := rfl
  rcases draw_pre 47 17 (by decide) tailD [.un, .un, .un] many n h0 (Nat.lt_of_lt_of_le hb (Nat.pow_le_pow_right (by decide) (by decide))) store cs u l hs hc hu (by omega) hl with ⟨r, u', l', env, h1, h2, h3, h4, h5, h6⟩ | ⟨c, h1⟩
  · refine ⟨r, _, ?_, ⟨hc, u', l', List.getElem?_set_self hn, by omega, by omega, h6⟩, fr_set, h2, h3⟩
    unfold F__law_draw runF
    rw [draw_eq, en, h1]
    rfl
  · have s1 := sml_b (x := u) (by omega) (by omega)
    have b1 : 0 ≤ c % 4294967231 ∧ c % 4294967231 < 4294967231 := ⟨Int.emod_nonneg _ (by decide), Int.emod_lt_of_pos _ (by decide)⟩
    have t1 := sml_b (x := c % 4294967231) (by omega) (by omega)
    have s11 : sml 1103515245 = true := by decide
    have s40 : sml 40013 = true := by decide
    have s52 : sml 524287 = true := by decide
    have s3 := sml_b (x := 40013 * u) (by omega) (by omega)
    have o1 := opMod_i (i := c) (j := 4294967231) (by decide)
    have m1 : opMul (.int (c % 4294967231)) (.int 1103515245) = some (.sh (.int (c % 4294967231 * 1103515245))) := opMul_i t1 s11
    have m2 : opMul (.int 40013) (.int u) = some (.sh (.int (40013 * u))) := opMul_i s40 s1
    have m3 : opMul (.int (40013 * u)) (.int u) = some (.sh (.int (40013 * u * u))) := opMul_i s3 s1
    have m4 : opMul (.int 524287) (.int u) = some (.sh (.int (524287 * u))) := opMul_i s52 s1
    obtain ⟨x1, e1⟩ : ∃ x, x = c % 4294967231 * 1103515245 + 40013 * u * u := ⟨_, rfl⟩
    have a1 : opAdd (.int (c % 4294967231 * 1103515245)) (.int (40013 * u * u)) = some (.sh (.int x1)) := by rw [e1]; rfl
    have o2 := opMod_i (i := x1 + 524287 * u + 29) (j := 4294967197) (by decide)
    obtain ⟨x2, e2⟩ : ∃ x, x = (x1 + 524287 * u + 29) % 4294967197 := ⟨_, rfl⟩
    have b2 : 0 ≤ (x1 + 524287 * u + 29) % 4294967197 ∧ (x1 + 524287 * u + 29) % 4294967197 < 4294967197 := ⟨Int.emod_nonneg _ (by decide), Int.emod_lt_of_pos _ (by decide)⟩
    rw [← e2] at o2 b2
    obtain ⟨b', t', k1, k2⟩ := loop_ok (.obj n) (.int many) (.int c) u hu (by omega) (store.set n (.dc (pen cs (u + 1) l))) (many.natAbs + 1) 300 0 many 0 x2 (by omega) (by omega) (by
      have e : 26 * 300 = 7800 := rfl
      rw [e]
      omega) (by decide) (by decide) (by decide) (by omega) (by omega)
    have oy := opMod_i (i := t') h0
    refine ⟨t' % many, _, ?_, ⟨hc, u + 1, l, List.getElem?_set_self hn, by omega, by omega, hl⟩, fr_set, Int.emod_nonneg _ (by omega), Int.emod_lt_of_pos _ h0⟩
    unfold F__law_draw runF
    rw [draw_eq, en, h1]
    clear h1 e1 e2
    simp [-opMul_i, -opMod_i, -opFdv_i, tailD, mV, natAt, o1, m1, m2, m3, a1, m4, o2, k1, oy]
theorem p_pickV (od : D) (ds : List D) (h0 : ds ≠ []) (hb : ds.length ≤ 1000) (hv : ∀ env s', Fr n store s' → view ⟨env, s'⟩ (.sh od) = some (.lst ds)) (h : Pn n cs N store) (hN : N ≤ 900000000) :
    ∃ d store', F__law_pick [.obj n, od] store = .ret (.sh d) store' ∧ Pn n cs (N + 8) store' ∧ Fr n store store' ∧ d ∈ ds := by
  have hp : 0 < ds.length := List.length_pos_iff.mpr h0
  obtain ⟨r, store', h1, h2, hf, h3, h4⟩ := p_draw (many := (ds.length : Int)) (by omega) (by
    have : (1000 : Nat) < 2 ^ 7800 := Nat.lt_of_lt_of_le (by decide : 1000 < 2 ^ 10) (Nat.pow_le_pow_right (by decide) (by decide))
    omega) h hN
  obtain ⟨i, hi⟩ := Int.eq_ofNat_of_zero_le h3
  have hi2 : i < ds.length := by omega
  have ix : opIx (.lst ds) (.int r) = some (.sh ds[i]) := by
    rw [opIx_l, hi, atI_nat (j := i) (v := ds[i]) (List.getElem?_eq_getElem hi2)]
    rfl
  have v1 := fun env => hv env store .refl
  have v2 := fun env => hv env store' hf
  have lc : opLen (.lst ds) = some (.sh (.int ((ds.length : Nat) : Int))) := rfl
  refine ⟨ds[i], store', ?_, h2, hf, List.getElem_mem hi2⟩
  simp [F__law_pick, runF, m__law_pick, entry, mV, v1, v2, lc, h1, ix]
theorem p_pick (ds : List D) (h0 : ds ≠ []) (hb : ds.length ≤ 1000) (h : Pn n cs N store) (hN : N ≤ 900000000) :
    ∃ d store', F__law_pick [.obj n, .lst ds] store = .ret (.sh d) store' ∧ Pn n cs (N + 8) store' ∧ Fr n store store' ∧ d ∈ ds := p_pickV (.lst ds) ds h0 hb (fun _ _ _ => rfl) h hN
theorem nat_lt {m : Int} {k : Nat} (h : m.natAbs < 2 ^ k) (hk : k ≤ 7800) : m.natAbs < 2 ^ 7800 := Nat.lt_of_lt_of_le h (Nat.pow_le_pow_right (by decide) hk)
end
/-! fractions and means -/
theorem s_frac (n d : Int) (s : List Cell) (h0 : 0 < d) (hb : d.natAbs < 2 ^ 8000) : F__law_fraction [.int n, .int d] s = .ret (.sh (fr (Rat.divInt n d))) s := by
  have h0' : d ≠ 0 := by omega
  have g0 : 0 < Int.gcd n d := Int.gcd_pos_of_ne_zero_right _ h0'
  have gl : Int.gcd n d ≤ d.natAbs := Nat.le_of_dvd (Int.natAbs_pos.mpr h0') (Int.gcd_dvd_natAbs_right ..)
  have lg : (Int.gcd n d).log2 < 9000 := log2_le (Nat.lt_of_le_of_lt gl hb) (by decide)
  have e1 : d.sign = 1 := Int.sign_eq_one_of_pos h0
  have e2 : (d.natAbs : Int) = d := by omega
  have eg : Nat.gcd n.natAbs d.natAbs = Int.gcd n d := rfl
  have lp := low_loop (.int n) (.int d) s (d.natAbs + 1) n.natAbs d.natAbs (Nat.lt_succ_self _)
  rw [eg] at lp
  have o1 := opFdv_i (i := n) (j := ((Int.gcd n d : Nat) : Int)) (by omega) (by simpa using lg)
  have o2 := opFdv_i (i := d) (j := ((Int.gcd n d : Nat) : Int)) (by omega) (by simpa using lg)
  rw [fr_divInt n d h0', e1, e2, Int.one_mul]
  rw [e2] at lp
  generalize ((Int.gcd n d : Nat) : Int) = g at *
  simp [F__law_fraction, runF, m__law_fraction, entry, mV, natAt, lp, o1, o2]
/-- a mean that is drawn -/
def Mn (k : Nat) (q : Rat) : Prop := q.den ≤ 100000000000000000000000000 ∧ q.num.natAbs ≤ (1000000000 + k) * q.den
theorem Mn.le {k l : Nat} {q : Rat} (h : Mn k q) (hl : k ≤ l) : Mn l q := ⟨h.1, Nat.le_trans h.2 (Nat.mul_le_mul_right _ (by omega))⟩
theorem Mn.bd {k : Nat} {q : Rat} (h : Mn k q) (hk : k ≤ 1000000000) : Bd 120 q := by
  have e : (2 : Nat) ^ 120 = 1329227995784915872903807060280344576 := by decide +kernel
  obtain ⟨h1, h2⟩ := h
  have : (1000000000 + k) * q.den ≤ 2000000000 * 100000000000000000000000000 := Nat.mul_le_mul (by omega) h1
  exact ⟨by omega, by omega⟩
end D4
set_option Elab.async false
set_option linter.all false
set_option maxRecDepth 100000
set_option maxHeartbeats 4000000
set_option exponentiation.threshold 20000
namespace D4
open PySem PySem.Spec L2 PM Lb
open D1 (Fr Fr.refl Fr.trans fr_set pen Pn sml_b)
/-! ### lists of fractions beside [] -/
def pf (q : Rat) : PyData := .tuple [.int q.num, .int (q.den : Int)]
end D4
set_option Elab.async false
set_option linter.all false
set_option maxRecDepth 100000
set_option maxHeartbeats 4000000
set_option exponentiation.threshold 9000
/-! pairs of ends of wishes -/
namespace Lb
open PySem PySem.Spec L2 PM
abbrev O := Option Rat
abbrev Pr := O × O
def op : O → D
  | none => .non
  | some q => fr q
def pr (p : Pr) : D := .tup [op p.1, op p.2]
def Ob (o : O) : Prop := ∀ q, o = some q → Bk q
def Pb (p : Pr) : Prop := Ob p.1 ∧ Ob p.2
def wi (ps : List Pr) : D := .rcd "Wishes" [("kept", .tup (ps.map pr))]
section
variable {s : List Cell} {st : State} {o a b : O} {p q : Pr} {ps qs : List Pr}
@[simp] theorem is_op : opIs2 (op o) .non = some o.isNone := by cases o <;> rfl
@[simp] theorem isn_op : opIsNot2 (op o) .non = some o.isSome := by cases o <;> rfl
@[simp] theorem view_op : view st (.sh (op o)) = some (op o) := by cases o <;> rfl
@[simp] theorem view_pr : view st (.sh (pr p)) = some (pr p) := rfl
@[simp] theorem op_s {r : Rat} : op (some r) = fr r := rfl
@[simp] theorem is_fr {r : Rat} : opIs2 (fr r) .non = some false := rfl
@[simp] theorem isn_fr {r : Rat} : opIsNot2 (fr r) .non = some true := rfl
/-! equality -/
def po : O → PyData
  | none => .none
  | some q => .tuple [.int q.num, .int (q.den : Int)]
def pp (p : Pr) : PyData := .tuple [po p.1, po p.2]
theorem py_op : D.py (op o) = some (po o) := by cases o <;> simp [op, fr, D.py, D.pys, po]
theorem py_pr : D.py (pr p) = some (pp p) := by simp [pr, D.py, D.pys, pp, py_op]
theorem pys_pr : ∀ ps : List Pr, D.pys (ps.map pr) = some (ps.map pp)
  | [] => rfl
  | p :: ps => by simp [D.pys, py_pr, pys_pr ps]
theorem eqv_op : PyData.eqv (po a) (po b) = decide (a = b) := by
  cases a with
  | none => cases b <;> simp [po, PyData.eqv]
  | some x =>
    cases b with
    | none => simp [po, PyData.eqv]
    | some y =>
      have e : PyData.eqv (po (some x)) (po (some y)) = ((x.num == y.num) && ((x.den : Int) == (y.den : Int))) := by simp [po, PyData.eqv, PyData.eqvAll]
      rw [e]
      by_cases h : x = y
      · subst h; simp
      · have h' : ¬ some x = some y := fun z => h (Option.some.inj z)
        rw [decide_eq_false h']
        refine Bool.eq_false_iff.mpr fun z => h ?_
        simp only [Bool.and_eq_true, beq_iff_eq] at z
        exact fr_inj z
theorem eqv_pr : PyData.eqv (pp p) (pp q) = decide (p = q) := by
  obtain ⟨p1, p2⟩ := p
  obtain ⟨q1, q2⟩ := q
  simp only [pp, PyData.eqv, PyData.eqvAll, eqv_op, Bool.and_true, Prod.mk.injEq, Bool.decide_and]
theorem eqvs_pr : ∀ ps qs : List Pr, PyData.eqvAll (ps.map pp) (qs.map pp) = decide (ps = qs)
  | [], [] => by simp [PyData.eqvAll]
  | [], _ :: _ => by simp [PyData.eqvAll]
  | _ :: _, [] => by simp [PyData.eqvAll]
  | p :: ps, q :: qs => by
    simp only [List.map_cons, PyData.eqvAll, eqv_pr, eqvs_pr ps qs, List.cons.injEq, Bool.decide_and]
theorem lay_op : PyData.canLay0 (po o) = true ∧ PyData.depth (po o) ≤ 1 := by
  cases o <;> simp [po, PyData.canLay0, PyData.canLayAll0, PyData.depth, PyData.depthAll]
theorem lay_pr : PyData.canLay0 (pp p) = true ∧ PyData.depth (pp p) ≤ 2 := by
  have h1 := lay_op (o := p.1)
  have h2 := lay_op (o := p.2)
  constructor
  · simp [pp, PyData.canLay0, PyData.canLayAll0, h1.1, h2.1]
  · simp only [pp, PyData.depth, PyData.depthAll]
    omega
theorem lay_prs : ∀ ps : List Pr, PyData.canLayAll0 (ps.map pp) = true ∧ PyData.depthAll (ps.map pp) ≤ 2
  | [] => by simp [PyData.canLayAll0, PyData.depthAll]
  | p :: ps => by
    have h1 := lay_pr (p := p)
    have h2 := lay_prs ps
    constructor
    · simp [PyData.canLayAll0, h1.1, h2.1]
    · simp only [List.map_cons, PyData.depthAll]
      omega
theorem sh_prs (ps : List Pr) : SeqAt.shaped (.tuple (ps.map pp)) = true := by
  have h := lay_prs ps
  simp [SeqAt.shaped, PyData.canLay0, h.1, PyData.depth]
  omega
theorem eq_prs : opEq (.tup (ps.map pr)) (.tup (qs.map pr)) = some (decide (ps = qs)) := by
  have e1 : D.py (.tup (ps.map pr)) = some (.tuple (ps.map pp)) := by simp [D.py, pys_pr]
  have e2 : D.py (.tup (qs.map pr)) = some (.tuple (qs.map pp)) := by simp [D.py, pys_pr]
  refine opEq_t ?_
  simp only [opEq0, e1, e2, Option.bind_some, sh_prs, Bool.and_self, if_true, PyData.eqv, eqvs_pr]
end
end Lb
set_option Elab.async false
set_option linter.all false
set_option maxRecDepth 100000
set_option maxHeartbeats 4000000
set_option exponentiation.threshold 20000
namespace D4
open PySem PySem.Spec L2 PM Lb
open D1 (Fr Fr.refl Fr.trans fr_set pen Pn Pn.le Pn.set Pn.app sml_b)
def Mo (k : Nat) (o : O) : Prop := ∀ q, o = some q → Mn k q
def Mp (k : Nat) (p : Pr) : Prop := Mo k p.1 ∧ Mo k p.2
theorem Mn.bk {k : Nat} {q : Rat} (h : Mn k q) (hk : k ≤ 1000000000) : Bk q := (h.bd hk).mono (by decide)
theorem Mp.pb {k : Nat} {p : Pr} (h : Mp k p) (hk : k ≤ 1000000000) : Pb p := ⟨fun q e => (h.1 q e).bk hk, fun q e => (h.2 q e).bk hk⟩
theorem Mp.le {k l : Nat} {p : Pr} (h : Mp k p) (hl : k ≤ l) : Mp l p := ⟨fun q e => (h.1 q e).le hl, fun q e => (h.2 q e).le hl⟩
/-- the known means stand at m -/
def Kn (m k l : Nat) (store : List Cell) : Prop := ∃ qs : List Rat, store[m]? = some (.ls (qs.map fr)) ∧ qs.length ≤ l ∧ ∀ q ∈ qs, Mn k q
/-- all cells but those at n, m are as they were -/
def Fr2 (n m : Nat) (s s' : List Cell) : Prop := s'.length = s.length ∧ ∀ i, i ≠ n → i ≠ m → s'[i]? = s[i]?
theorem Fr2.refl {n m : Nat} {s : List Cell} : Fr2 n m s s := ⟨rfl, fun _ _ _ => rfl⟩
theorem Fr2.trans {n m : Nat} {a b c : List Cell} (h : Fr2 n m a b) (k : Fr2 n m b c) : Fr2 n m a c := ⟨k.1.trans h.1, fun i hi hj => (k.2 i hi hj).trans (h.2 i hi hj)⟩
theorem Kn.fr {n m k l : Nat} {a b : List Cell} (h : Kn m k l a) (f : Fr n a b) (hm : m ≠ n) : Kn m k l b := by
  obtain ⟨qs, h1, h2⟩ := h
  exact ⟨qs, (f.2 m hm).trans h1, h2⟩
end D4
set_option Elab.async false
set_option linter.all false
set_option maxRecDepth 100000
set_option maxHeartbeats 4000000
set_option exponentiation.threshold 20000
/-! values and odd values that the laws of wishes draw -/
namespace D4
open PySem PySem.Spec L2 PM Lb
open D1 (Fr Fr.refl Fr.trans fr_set pen Pn Pn.le Pn.set Pn.app sml_b)
section
variable {n : Nat} {cs : List Int} {N : Int} {store s : List Cell} {a b : Rat}
/-- an end that is drawn -/
def Vo (o : O) : Prop := ∀ q, o = some q → Bd 130 q
theorem Vo.ob {o : O} (h : Vo o) : Ob o := fun q e => (h q e).mono (by decide)
theorem vo_n : Vo none := fun q e => by cases e
theorem vo_s {q : Rat} (h : Bd 130 q) : Vo (some q) := fun r e => by cases e; exact h
theorem p130 : (2 : Nat) ^ 130 = 1361129467683753853853498429727072845824 := by decide +kernel
theorem p_value (h : Pn n cs N store) (hN : N ≤ 700000000) : ∃ o store', F__law_value [.obj n] store = .ret (.sh (op o)) store' ∧ Pn n cs (N + 40) store' ∧ Fr n store store' ∧ Vo o := by
  have w1 : opPow (.int 10) (.int 6) = some (.sh (.int 1000000)) := rfl
  have w2 : opPow (.int 10) (.int 38) = some (.sh (.int 100000000000000000000000000000000000000)) := rfl
  obtain ⟨d1, s1, a1, a2, a3, a4⟩ := p_pick [.int 1, .int 3, .int 9, .int 1000000, .int 100000000000000000000000000000000000000] (by simp) (by simp) h (by omega)
  obtain ⟨t, rfl, t0, t1⟩ : ∃ t : Int, d1 = .int t ∧ 1 ≤ t ∧ t ≤ 100000000000000000000000000000000000000 := by
    simp only [List.mem_cons, List.not_mem_nil, or_false] at a4
    rcases a4 with rfl | rfl | rfl | rfl | rfl <;> exact ⟨_, rfl, by omega, by omega⟩
  have p130 := p130
  obtain ⟨i, s2, b1, b2, b3, b4, b5⟩ := p_draw (2 * t + 1) (by omega) (nat_lt (k := 130) (by omega) (by decide)) a2 (by omega)
  have m1 : opMul (.int 2) (.int t) = some (.sh (.int (2 * t))) := opMul_i (by decide) (sml_b (by omega) (by omega))
  have b1' : F__law_integer [.obj n, .int t] s1 = .ret (.sh (.int (i - t))) s2 := by
    simp [F__law_integer, runF, m__law_integer, entry, mV, m1, b1]
  obtain ⟨r, s3, c1, c2, c3, c4, c5⟩ := p_draw t (by omega) (nat_lt (k := 130) (by omega) (by decide)) b2 (by omega)
  have hd : (1 + r).natAbs < 2 ^ 130 := by omega
  have f1 := s_frac (i - t) (1 + r) s3 (by omega) (Nat.lt_of_lt_of_le hd (Nat.pow_le_pow_right (by decide) (by decide)))
  have bq : Bd 130 (Rat.divInt (i - t) (1 + r)) := bd_divInt (by omega) (by omega) hd
  obtain ⟨d, s4, e1, e2, e3, e4⟩ := p_pick [.non, fr (Rat.divInt (i - t) (1 + r)), .tup [.int 0, .int 1]] (by simp) (by simp) c2 (by omega)
  have : ∃ o, d = op o ∧ Vo o := by
    simp only [List.mem_cons, List.not_mem_nil, or_false] at e4
    rcases e4 with rfl | rfl | rfl
    · exact ⟨none, rfl, vo_n⟩
    · exact ⟨some _, rfl, vo_s bq⟩
    · exact ⟨some 0, rfl, vo_s ⟨by decide, by decide⟩⟩
  obtain ⟨o, rfl, ho⟩ := this
  refine ⟨o, s4, ?_, e2.le (by omega), ((a3.trans b3).trans c3).trans e3, ho⟩
  simp [F__law_value, runF, m__law_value, entry, mV, w1, w2, a1, b1', c1, f1, e1]
def oddA : List D := [.non, .bl true, .bl false, .int 0, .int 1, .int (-1), .int 7, .int 10000000000000000000000000000000000000000, .str "", .str "a", .str "0", .str "zz", .tup [], .tup [.int 0], .tup [.int 0, .int 1], .lst [], .lst [.int 0], .dct [], .dct [(.inr "a", .int 0)]]
def oddB : List D := [.tup [.non, .non], .tup [.tup [.int 0, .int 1], .non], .lst [.tup [.non, .non]], .tup [.int 1, .int 2], .tup [.int 2, .int 4], .tup [.int 1, .int 0], .tup [.int 1, .int (-2)], .tup [.bl true, .int 1]]
def oddC : List D := [.tup [.int 0, .tup [.int 0, .int 1]], .lst [.tup [.tup [.int 0, .int 1], .tup [.int 0, .int 1]]], .tup [.tup [.non, .non]]]
theorem p_odd (h : Pn n cs N store) (hN : N ≤ 700000000) : ∃ d store', F__law_odd [.obj n] store = .ret (.sh d) store' ∧ Pn n cs (N + 8) store' ∧ Fr n store store' ∧ d ∈ oddA ++ oddB ++ oddC := by
  obtain ⟨d, s1, a1, a2, a3, a4⟩ := p_pick (oddA ++ oddB ++ oddC) (by simp [oddA]) (by decide) h (by omega)
  refine ⟨d, s1, ?_, a2, a3, a4⟩
  have w : opPow (.int 10) (.int 40) = some (.sh (.int 10000000000000000000000000000000000000000)) := rfl
  have d0 : ∀ st, kDi [] st = .ok (.ow (.dc [])) st := fun st => rfl
  have d1 : ∀ st, kDi [(.str "a", .int 0)] st = .ok (.ow (.dc [(.inr "a", .int 0)])) st := fun st => rfl
  have k1 : ∀ st, kLst [.non, .bl true, .bl false, .int 0, .int 1, .int (-1), .int 7, .int 10000000000000000000000000000000000000000, .str "", .str "a", .str "0", .str "zz", .tup [], .tup [.int 0], .tup [.int 0, .int 1], .lst [], .lst [.int 0], .dct [], .dct [(.inr "a", .int 0)]] st = .ok (.ow (.ls oddA)) st := fun st => kLst_e (by decide)
  have k2 : ∀ st, kLst [.tup [.non, .non], .tup [.tup [.int 0, .int 1], .non], .lst [.tup [.non, .non]], .tup [.int 1, .int 2], .tup [.int 2, .int 4], .tup [.int 1, .int 0], .tup [.int 1, .int (-2)], .tup [.bl true, .int 1]] st = .ok (.ow (.ls oddB)) st := fun st => kLst_e (by decide)
  have k3 : ∀ st, kLst [.tup [.int 0, .tup [.int 0, .int 1]], .lst [.tup [.tup [.int 0, .int 1], .tup [.int 0, .int 1]]], .tup [.tup [.non, .non]]] st = .ok (.ow (.ls oddC)) st := fun st => kLst_e (by decide)
  have c1 : opAdd (.lst oddA) (.lst oddB) = some (.ow (.ls (oddA ++ oddB))) := by
    simp only [opAdd]
    rw [if_pos (by decide)]
  have c2 : opAdd (.lst (oddA ++ oddB)) (.lst oddC) = some (.ow (.ls (oddA ++ oddB ++ oddC))) := by
    simp only [opAdd]
    rw [if_pos (by decide)]
  generalize oddA ++ oddB ++ oddC = L at *
  generalize oddA ++ oddB = L2 at *
  generalize oddA = LA at *
  generalize oddB = LB at *
  generalize oddC = LC at *
  simp [-kLst_3, -kLst_8, F__law_odd, runF, m__law_odd, entry, mV, mVar, view_lo, w, d0, d1, k1, k2, k3, c1, c2, a1]
end
end D4
set_option Elab.async false
set_option linter.all false
set_option maxRecDepth 100000
set_option maxHeartbeats 4000000
set_option exponentiation.threshold 9000
/-! any data: what the checks answer of it, how long its repr is -/
namespace Lb
open PySem PySem.Spec L2 PM
mutual
/-- data: ints of some 1,900 bits, texts of plain signs, dicts as they are -/
def dat : D → Bool
  | .non => true
  | .bl _ => true
  | .int i => decide (i.natAbs.log2 < 1900)
  | .str x => decide (x.length ≤ 100) && x.cps.toList.all fun c => decide (c < 4294967296)
  | .tup ds => dats ds
  | .lst ds => dats ds
  | .dct kvs => (D.pydk kvs).any fun ps => (PyData.dict ps).showable && (decide ((PyData.dict ps).depth ≤ 2) && decide ((PyData.dict ps).shown.length ≤ 100))
  | _ => false
def dats : List D → Bool
  | [] => true
  | d :: ds => dat d && dats ds
end
mutual
/-- how long its repr is at most -/
def wt : D → Nat
  | .int _ => 1921
  | .str x => 10 * x.length + 2
  | .tup ds => wts ds + 3
  | .lst ds => wts ds + 3
  | .dct _ => 100
  | _ => 5
def wts : List D → Nat
  | [] => 0
  | d :: ds => wt d + 2 + wts ds
end
mutual
def dep : D → Nat
  | .tup ds => deps ds + 1
  | .lst ds => deps ds + 1
  | .dct _ => 2
  | _ => 0
def deps : List D → Nat
  | [] => 0
  | d :: ds => max (dep d) (deps ds)
end
section
variable {s : List Cell} {st : State} {d : D} {ds es : List D}
@[simp] theorem dats_nil : dats [] = true := by simp only [dats]
@[simp] theorem dats_cons : dats (d :: ds) = (dat d && dats ds) := by simp only [dats]
@[simp] theorem dat_tup : dat (.tup ds) = dats ds := by simp only [dat]
@[simp] theorem dat_lst : dat (.lst ds) = dats ds := by simp only [dat]
@[simp] theorem dat_non : dat .non = true := by simp only [dat]
@[simp] theorem dat_bl {b : Bool} : dat (.bl b) = true := by simp only [dat]
@[simp] theorem dat_int {i : Int} : dat (.int i) = decide (i.natAbs.log2 < 1900) := by simp only [dat]
@[simp] theorem wts_nil : wts [] = 0 := by simp only [wts]
@[simp] theorem wts_cons : wts (d :: ds) = wt d + 2 + wts ds := by simp only [wts]
@[simp] theorem wt_tup : wt (.tup ds) = wts ds + 3 := by simp only [wt]
@[simp] theorem wt_lst : wt (.lst ds) = wts ds + 3 := by simp only [wt]
@[simp] theorem wt_non : wt .non = 5 := by simp only [wt]
@[simp] theorem wt_bl {b : Bool} : wt (.bl b) = 5 := by simp only [wt]
@[simp] theorem wt_int {i : Int} : wt (.int i) = 1921 := by simp only [wt]
@[simp] theorem deps_nil : deps [] = 0 := by simp only [deps]
@[simp] theorem deps_cons : deps (d :: ds) = max (dep d) (deps ds) := by simp only [deps]
@[simp] theorem dep_tup : dep (.tup ds) = deps ds + 1 := by simp only [dep]
@[simp] theorem dep_lst : dep (.lst ds) = deps ds + 1 := by simp only [dep]
@[simp] theorem dep_non : dep .non = 0 := by simp only [dep]
@[simp] theorem dep_bl {b : Bool} : dep (.bl b) = 0 := by simp only [dep]
@[simp] theorem dep_int {i : Int} : dep (.int i) = 0 := by simp only [dep]
theorem dats_app : dats (ds ++ es) = (dats ds && dats es) := by
  induction ds with
  | nil => simp
  | cons d ds ih => simp [ih, Bool.and_assoc]
theorem wts_app : wts (ds ++ es) = wts ds + wts es := by
  induction ds with
  | nil => simp
  | cons d ds ih => simp [ih]; omega
theorem deps_app : deps (ds ++ es) = max (deps ds) (deps es) := by
  induction ds with
  | nil => simp
  | cons d ds ih => simp [ih]
theorem dats_mem (h : dats ds = true) (hd : d ∈ ds) : dat d = true := by
  induction ds with
  | nil => cases hd
  | cons e ds ih =>
    simp only [dats_cons, Bool.and_eq_true] at h
    rcases List.mem_cons.mp hd with rfl | hd
    · exact h.1
    · exact ih h.2 hd
theorem dats_of (h : ∀ d ∈ ds, dat d = true) : dats ds = true := by
  induction ds with
  | nil => simp
  | cons e ds ih =>
    simp only [dats_cons, Bool.and_eq_true]
    exact ⟨h e List.mem_cons_self, ih fun d hd => h d (List.mem_cons_of_mem _ hd)⟩
theorem wts_mem (hd : d ∈ ds) : wt d + 2 ≤ wts ds := by
  induction ds with
  | nil => cases hd
  | cons e ds ih =>
    rw [wts_cons]
    rcases List.mem_cons.mp hd with rfl | hd
    · omega
    · have := ih hd; omega
theorem deps_mem (hd : d ∈ ds) : dep d ≤ deps ds := by
  induction ds with
  | nil => cases hd
  | cons e ds ih =>
    rw [deps_cons]
    rcases List.mem_cons.mp hd with rfl | hd
    · omega
    · have := ih hd; omega
theorem wts_len : 2 * ds.length ≤ wts ds := by
  induction ds with
  | nil => simp
  | cons e ds ih => rw [wts_cons, List.length_cons]; omega
theorem shw_dat : ∀ {d : D}, dat d = true → Shw (dep d) (wt d) d := by
  have A : ∀ n : Nat, (∀ d : D, sizeOf d ≤ n → dat d = true → Shw (dep d) (wt d) d) := by
    intro n
    induction n with
    | zero =>
      intro d h
      cases d <;> simp at h
    | succ n ih =>
      have L : ∀ ds : List D, sizeOf ds ≤ n → dats ds = true → Shws (deps ds) (wts ds) ds := by
        intro ds
        induction ds with
        | nil => intro _ _; simpa using shws_nil 0
        | cons d ds ih2 =>
          intro hs h
          simp only [dats_cons, Bool.and_eq_true] at h
          simp only [List.cons.sizeOf_spec] at hs
          have h1 := ih d (by omega) h.1
          have h2 := ih2 (by omega) h.2
          rw [wts_cons, deps_cons]
          obtain ⟨ps, f1, f2, f3, f4⟩ := h2
          exact shws_cons (h1.mono (Nat.le_max_left ..) (Nat.le_refl _)) ⟨ps, f1, f2, Nat.le_trans f3 (Nat.le_max_right ..), f4⟩
      intro d hs h
      cases d with
      | non => exact shw_non.mono (by simp) (by simp)
      | bl b => exact (shw_bl b).mono (by simp) (by simp)
      | int i =>
        simp only [dat_int, decide_eq_true_eq] at h
        exact (shw_int (by omega)).mono (by simp) (by simp)
      | str x =>
        simp only [dat, Bool.and_eq_true, decide_eq_true_eq, List.all_eq_true] at h
        exact (shw_str fun c hc => h.2 c hc).mono (by simp) (by simp only [wt]; omega)
      | tup ds =>
        simp only [D.tup.sizeOf_spec] at hs
        rw [dat_tup] at h
        exact (shw_tup (L ds (by omega) h)).mono (by simp) (by simp)
      | lst ds =>
        simp only [D.lst.sizeOf_spec] at hs
        rw [dat_lst] at h
        exact (shw_lst (L ds (by omega) h)).mono (by simp) (by simp)
      | dct kvs =>
        simp only [dat, Option.any_eq_true, Bool.and_eq_true, decide_eq_true_eq] at h
        obtain ⟨ps, h1, h2, h3, h4⟩ := h
        exact ⟨.dict ps, by simp only [D.pyd, h1]; rfl, h2, by simpa only [dep] using h3, by simpa only [wt] using h4⟩
      | _ => simp [dat] at h
  exact fun {d} h => A (sizeOf d) d (Nat.le_refl _) h
theorem rep_dat (h : dat d = true) (hd : dep d ≤ 64) (hw : wt d ≤ lim) : opRepr d = some (.sh (.str (shw d))) := opRepr_e (shw_dat h) hd hw
theorem view_dat (h : dat d = true) : view st (.sh d) = some d := by cases d <;> first | rfl | simp [dat] at h
/-! what kind it is of -/
def isI : D → Bool
  | .int _ => true
  | _ => false
theorem k_isi (T : String) (k : String) (b : Bool) (h1 : opKind d = some k) (h2 : kitB k T = some b) : opIsi d (.val (.ty T)) = some (.sh (.bl b)) := by simp [opIsi, h1, h2]
theorem k_isi2 (k : String) (b : Bool) (h1 : opKind d = some k) (h2 : kitBs k ["list", "tuple"] = some b) : opIsi d (.tup [.val (.ty "list"), .val (.ty "tuple")]) = some (.sh (.bl b)) := by
  have e : tysOf [D.val (.ty "list"), D.val (.ty "tuple")] = some ["list", "tuple"] := rfl
  simp [opIsi, h1, h2, e]
theorem s_isI (h : dat d = true) : F_is_integer [d] s = .ret (.sh (.bl (isI d))) s := by
  have g : ∀ k b1 b2, opKind d = some k → kitB k "int" = some b1 → kitB k "bool" = some b2 → (b1 && !b2) = isI d → F_is_integer [d] s = .ret (.sh (.bl (isI d))) s := by
    intro k b1 b2 h1 h2 h3 h4
    have e1 := k_isi "int" k b1 h1 h2
    have e2 := k_isi "bool" k b2 h1 h3
    have hv := fun st => view_dat (st := st) h
    rw [← h4]
    cases b1 <;> simp [F_is_integer, runF, m_is_integer, entry, mV, hv, e1, e2]
  cases d with
  | non => exact g "NoneType" false false rfl (by decide +kernel) (by decide +kernel) rfl
  | bl c => exact g "bool" true true rfl (by decide +kernel) (by decide +kernel) rfl
  | int i => exact g "int" true false rfl (by decide +kernel) (by decide +kernel) rfl
  | str z => exact g "str" false false rfl (by decide +kernel) (by decide +kernel) rfl
  | tup ds => exact g "tuple" false false rfl (by decide +kernel) (by decide +kernel) rfl
  | lst ds => exact g "list" false false rfl (by decide +kernel) (by decide +kernel) rfl
  | dct kvs => exact g "dict" false false rfl (by decide +kernel) (by decide +kernel) rfl
  | _ => simp [dat] at h
def isT : D → Bool
  | .tup _ => true
  | _ => false
def isTn (n : Int) : D → Bool
  | .tup ds => decide ((ds.length : Int) = n)
  | _ => false
theorem e_isT (h : dat d = true) : opIsi d (.val (.ty "tuple")) = some (.sh (.bl (isT d))) := by
  cases d <;> first | exact k_isi _ _ true rfl (by decide +kernel) | exact k_isi _ _ false rfl (by decide +kernel) | (simp [dat] at h; done)
def isL : D → Bool
  | .lst _ => true
  | _ => false
theorem e_isL (h : dat d = true) : opIsi d (.val (.ty "list")) = some (.sh (.bl (isL d))) := by
  cases d <;> first | exact k_isi _ _ true rfl (by decide +kernel) | exact k_isi _ _ false rfl (by decide +kernel) | (simp [dat] at h; done)
def isB : D → Bool
  | .bl _ => true
  | _ => false
theorem e_isB (h : dat d = true) : opIsi d (.val (.ty "bool")) = some (.sh (.bl (isB d))) := by
  cases d <;> first | exact k_isi _ _ true rfl (by decide +kernel) | exact k_isi _ _ false rfl (by decide +kernel) | (simp [dat] at h; done)
theorem e_isIn (h : dat d = true) : opIsi d (.val (.ty "int")) = some (.sh (.bl (isI d || isB d))) := by
  cases d <;> first | exact k_isi _ _ true rfl (by decide +kernel) | exact k_isi _ _ false rfl (by decide +kernel) | (simp [dat] at h; done)
def isDc : D → Bool
  | .dct _ => true
  | _ => false
theorem e_isDc (h : dat d = true) : opIsi d (.val (.ty "dict")) = some (.sh (.bl (isDc d))) := by
  cases d <;> first | exact k_isi _ _ true rfl (by decide +kernel) | exact k_isi _ _ false rfl (by decide +kernel) | (simp [dat] at h; done)
theorem e_isLT (h : dat d = true) : opIsi d (.tup [.val (.ty "list"), .val (.ty "tuple")]) = some (.sh (.bl (isL d || isT d))) := by
  cases d <;> first | exact k_isi2 _ true rfl (by decide +kernel) | exact k_isi2 _ false rfl (by decide +kernel) | (simp [dat] at h; done)
theorem s_isTn (h : dat d = true) (n : Int) : F_is_tuple_of [d, .int n] s = .ret (.sh (.bl (isTn n d))) s := by
  have e := e_isT h
  have hv := fun st => view_dat (st := st) h
  by_cases ht : isT d = true
  · cases d <;> simp [isT] at ht
    simp [F_is_tuple_of, runF, m_is_tuple_of, entry, mV, e, isT, isTn]
  · have hn : isTn n d = false := by cases d <;> first | rfl | simp [isT] at ht
    rw [Bool.not_eq_true] at ht
    rw [ht] at e
    rw [hn]
    simp [F_is_tuple_of, runF, m_is_tuple_of, entry, mV, e, hv]
/-- whether it is a fraction -/
def isFr : D → Bool
  | .tup [.int n, .int d] => decide (0 < d) && decide (Int.gcd n d = 1)
  | _ => false
theorem isFr_fr {q : Rat} : isFr (fr q) = true := by
  have h : 0 < q.den := q.den_pos
  simp only [fr, isFr, gcd1]
  simp [h]
theorem lg_of {i : Int} (h : i.natAbs.log2 < 1900) : i.natAbs < 2 ^ 1900 := by
  by_cases h0 : i.natAbs = 0
  · rw [h0]; exact Nat.two_pow_pos _
  · exact (Nat.log2_lt h0).mp h
theorem s_isFr (h : dat d = true) : F_is_fraction [d] s = .ret (.sh (.bl (isFr d))) s := by
  have t := s_isTn (s := s) h 2
  have hv := fun st => view_dat (st := st) h
  by_cases ht : isTn 2 d = true
  · match d, ht with
    | .tup ds, ht =>
      simp only [isTn, decide_eq_true_eq] at ht
      match ds, ht with
      | [a, b], _ =>
        simp only [dat_tup, dats_cons, dats_nil, Bool.and_true, Bool.and_eq_true] at h
        have ea := s_isI (s := s) h.1
        have eb := s_isI (s := s) h.2
        have hva := fun st => view_dat (st := st) h.1
        have hvb := fun st => view_dat (st := st) h.2
        by_cases ia : isI a = true
        · by_cases ib : isI b = true
          · obtain ⟨i, rfl⟩ : ∃ i, a = .int i := by cases a <;> first | exact ⟨_, rfl⟩ | simp [isI] at ia
            obtain ⟨j, rfl⟩ : ∃ j, b = .int j := by cases b <;> first | exact ⟨_, rfl⟩ | simp [isI] at ib
            by_cases hj : 0 < j
            · have e : decide (Int.gcd i j = 1) = decide (((Int.gcd i j : Nat) : Int) = 1) := decide_eq_decide.mpr (by omega)
              simp [F_is_fraction, runF, m_is_fraction, entry, mV, t, isTn, ea, eb, isI, hj, s_divisor, isFr, e]
            · simp [F_is_fraction, runF, m_is_fraction, entry, mV, t, isTn, ea, eb, isI, hj, isFr]
          · have z : isFr (.tup [a, b]) = false := by
              cases b <;> first | (simp [isI] at ib; done) | (cases a <;> rfl)
            rw [Bool.not_eq_true] at ib
            rw [z]
            simp [F_is_fraction, runF, m_is_fraction, entry, mV, t, isTn, ea, eb, ia, ib]
        · have z : isFr (.tup [a, b]) = false := by
            cases a <;> first | (simp [isI] at ia; done) | rfl
          rw [Bool.not_eq_true] at ia
          rw [z]
          simp [F_is_fraction, runF, m_is_fraction, entry, mV, t, isTn, ea, ia]
  · have z : isFr d = false := by
      match d with
      | .tup [.int n, .int k] => simp [isTn] at ht
      | .tup [] => rfl
      | .tup [a] => cases a <;> rfl
      | .tup (a :: b :: c :: r) => cases a <;> first | rfl | (cases b <;> rfl)
      | .tup [a, b] => simp [isTn] at ht
      | .non | .bl _ | .int _ | .str _ | .lst _ | .lsF _ | .tpF _ | .dct _ | .dcT _ | .obj _ | .rcd _ _ | .exn0 _ | .exn _ _ | .cls _ | .val _ => rfl
    rw [Bool.not_eq_true] at ht
    rw [z]
    simp [F_is_fraction, runF, m_is_fraction, entry, mV, t, ht, hv]
end
end Lb
namespace Lb
open PySem PySem.Spec L2 PM
/-! slices -/
section
variable {d : D} {ds es : List D}
theorem cut_sub (l : List D) (a b : Option Int) : (cut l a b).Sublist l := (List.take_sublist _ _).trans (List.drop_sublist _ _)
theorem dats_sub (h : ds.Sublist es) (k : dats es = true) : dats ds = true := dats_of fun d hd => dats_mem k (h.mem hd)
theorem wts_sub (h : ds.Sublist es) : wts ds ≤ wts es := by
  induction h with
  | slnil => simp
  | cons a _ ih => rw [wts_cons]; omega
  | cons_cons a _ ih => rw [wts_cons, wts_cons]; omega
theorem deps_le {n : Nat} (h : ∀ d ∈ ds, dep d ≤ n) : deps ds ≤ n := by
  induction ds with
  | nil => simp
  | cons a ds ih => rw [deps_cons]; exact Nat.max_le.mpr ⟨h a List.mem_cons_self, ih fun d hd => h d (List.mem_cons_of_mem _ hd)⟩
theorem deps_sub (h : ds.Sublist es) : deps ds ≤ deps es := deps_le fun d hd => deps_mem (h.mem hd)
theorem wts_rev : wts ds.reverse = wts ds := by
  induction ds with
  | nil => simp
  | cons a ds ih => rw [List.reverse_cons, wts_app, ih]; simp; omega
theorem deps_rev : deps ds.reverse ≤ deps ds := deps_le fun d hd => deps_mem (List.mem_reverse.mp hd)
theorem dats_rev (h : dats ds = true) : dats ds.reverse = true := dats_of fun d hd => dats_mem h (List.mem_reverse.mp hd)
theorem wts_at {k : Nat} (h : ds[k]? = some d) : wts (ds.take k) + (wt d + 2) + wts (ds.drop (k + 1)) = wts ds := by
  obtain ⟨hk, rfl⟩ := List.getElem?_eq_some_iff.mp h
  have e : ds.take k ++ ds[k] :: ds.drop (k + 1) = ds := by rw [List.getElem_cons_drop, List.take_append_drop]
  have := congrArg wts e
  rw [wts_app, wts_cons] at this
  omega
mutual
/-- no dicts, smaller ints -/
def nb : D → Bool
  | .non => true
  | .bl _ => true
  | .int i => decide (i.natAbs.log2 < 1800)
  | .tup ds => nbs ds
  | .lst ds => nbs ds
  | _ => false
def nbs : List D → Bool
  | [] => true
  | d :: ds => nb d && nbs ds
end
theorem nb_tup : nb (.tup ds) = nbs ds := by simp only [nb]
theorem nb_lst : nb (.lst ds) = nbs ds := by simp only [nb]
theorem nbs_mem (h : nbs ds = true) (hd : d ∈ ds) : nb d = true := by
  induction ds with
  | nil => cases hd
  | cons e ds ih =>
    simp only [nbs, Bool.and_eq_true] at h
    rcases List.mem_cons.mp hd with rfl | hd
    · exact h.1
    · exact ih h.2 hd
theorem nbs_of (h : ∀ d ∈ ds, nb d = true) : nbs ds = true := by
  induction ds with
  | nil => simp only [nbs]
  | cons e ds ih =>
    simp only [nbs, Bool.and_eq_true]
    exact ⟨h e List.mem_cons_self, ih fun d hd => h d (List.mem_cons_of_mem _ hd)⟩
theorem nb_dat : ∀ {d : D}, nb d = true → dat d = true := by
  have A : ∀ n : Nat, ∀ d : D, sizeOf d ≤ n → nb d = true → dat d = true := by
    intro n
    induction n with
    | zero => intro d h; cases d <;> simp at h
    | succ n ih =>
      intro d hs h
      cases d with
      | int i => simp only [nb, decide_eq_true_eq] at h; simp; omega
      | tup ds =>
        rw [nb_tup] at h
        rw [dat_tup]
        refine dats_of fun d hd => ih d ?_ (nbs_mem h hd)
        have := List.sizeOf_lt_of_mem hd
        simp only [D.tup.sizeOf_spec] at hs
        omega
      | lst ds =>
        rw [nb_lst] at h
        rw [dat_lst]
        refine dats_of fun d hd => ih d ?_ (nbs_mem h hd)
        have := List.sizeOf_lt_of_mem hd
        simp only [D.lst.sizeOf_spec] at hs
        omega
      | _ => first | (simp [nb] at h; done) | simp
  exact fun {d} h => A (sizeOf d) d (Nat.le_refl _) h
/-- r holds the value d -/
def Is (r : RV) (d : D) : Prop := r = .sh d ∨ ∃ ds, r = .ow (.ls ds) ∧ d = .lst ds
theorem Is.frz {r : RV} {st : State} (h : Is r d) : RV.frz r st = .ok d st := by
  rcases h with rfl | ⟨ds, rfl, rfl⟩ <;> rfl
theorem Is.bor {r : RV} (h : Is r d) : r.bor = .sh d := by
  rcases h with rfl | ⟨ds, rfl, rfl⟩ <;> rfl
theorem Is.of {r : RV} {st : State} {s : List Cell} (h : Is r d) : ofF st (.ret r s) = .ok r { st with store := s } := by
  rcases h with rfl | ⟨ds, rfl, rfl⟩ <;> rfl
theorem Is.at {r : RV} {st : State} {s : List Cell} {Z : Out RV → Prop} (h : Is r d) : At (.ret r s) (zOf st Z) = At (.ok r { st with store := s }) Z := by
  rcases h with rfl | ⟨ds, rfl, rfl⟩ <;> rfl
theorem is_sh : Is (.sh d) d := .inl rfl
theorem is_ow : Is (.ow (.ls ds)) (.lst ds) := .inr ⟨ds, rfl, rfl⟩
end
end Lb
set_option Elab.async false
set_option linter.all false
set_option maxRecDepth 100000
set_option maxHeartbeats 4000000
set_option exponentiation.threshold 20000
namespace Lb
open PySem PySem.Spec L2 PM
/-! ### texts of what is shown can be laid -/
def okc (l : List Nat) : Bool := l.all fun c => decide (c < 1114112)
mutual
/-- texts of plain signs -/
def asc : D → Bool
  | .str x => x.cps.toList.all fun c => decide (c < 128)
  | .tup ds => ascs ds
  | .lst ds => ascs ds
  | .dct kvs => okc (shw (.dct kvs)).cps.toList
  | _ => true
def ascs : List D → Bool
  | [] => true
  | d :: ds => asc d && ascs ds
end
section
variable {d : D} {ds es : List D}
theorem asc_tup : asc (.tup ds) = ascs ds := by simp only [asc]
theorem asc_lst : asc (.lst ds) = ascs ds := by simp only [asc]
theorem ascs_mem (h : ascs ds = true) (hd : d ∈ ds) : asc d = true := by
  induction ds with
  | nil => cases hd
  | cons x ds ih =>
    simp only [ascs, Bool.and_eq_true] at h
    rcases List.mem_cons.mp hd with rfl | hd
    · exact h.1
    · exact ih h.2 hd
theorem ascs_of (h : ∀ d ∈ ds, asc d = true) : ascs ds = true := by
  induction ds with
  | nil => simp only [ascs]
  | cons x ds ih =>
    simp only [ascs, Bool.and_eq_true]
    exact ⟨h x List.mem_cons_self, ih fun d hd => h d (List.mem_cons_of_mem _ hd)⟩
theorem nb_asc : ∀ {d : D}, nb d = true → asc d = true := by
  have A : ∀ n : Nat, ∀ d : D, sizeOf d ≤ n → nb d = true → asc d = true := by
    intro n
    induction n with
    | zero =>
      intro d h
      cases d <;> simp at h
    | succ n ih =>
      intro d hs h
      cases d with
      | non => simp only [asc]
      | bl b => simp only [asc]
      | int i => simp only [asc]
      | tup ds =>
        simp only [D.tup.sizeOf_spec] at hs
        rw [asc_tup]
        exact ascs_of fun x hx => ih x (by have := List.sizeOf_lt_of_mem hx; omega) (nbs_mem (by rw [← nb_tup]; exact h) hx)
      | lst ds =>
        simp only [D.lst.sizeOf_spec] at hs
        rw [asc_lst]
        exact ascs_of fun x hx => ih x (by have := List.sizeOf_lt_of_mem hx; omega) (nbs_mem (by rw [← nb_lst]; exact h) hx)
      | _ => simp [nb] at h
  exact fun {d} h => A (sizeOf d) d (Nat.le_refl _) h
def Ok (x : Str) : Prop := okc x.cps.toList = true
theorem ok_app {a b : Str} (ha : Ok a) (hb : Ok b) : Ok (a ++ b) := by
  unfold Ok okc at *
  have e : (a ++ b).cps.toList = a.cps.toList ++ b.cps.toList := by
    show (a.cps ++ b.cps).toList = _
    simp
  rw [e, List.all_append, ha, hb]
  rfl
theorem ok_of (s : String) : Ok (Str.ofString s) := by
  unfold Ok okc
  rw [Str.ofString_eq_toList, List.all_eq_true]
  intro c hc
  obtain ⟨z, _, rfl⟩ := List.mem_map.mp (by simpa using hc)
  have := z.valid
  refine decide_eq_true ?_
  rcases this with h | h
  · have : z.toNat < 0xd800 := h
    omega
  · exact h.2
theorem ok_strOk {x : Str} (h : Ok x) : PyData.strOk x = true := by
  unfold PyData.strOk
  rw [Array.all_eq_true']
  intro c hc
  exact decide_eq_true (of_decide_eq_true (List.all_eq_true.mp h c (by simpa using hc)))
theorem ok_join {sep : Str} (hs : Ok sep) : ∀ l : List Str, (∀ x ∈ l, Ok x) → Ok (Str.join sep l)
  | [], _ => by show Ok Str.empty; exact rfl
  | [x], h => h x (by simp)
  | x :: y :: r, h => ok_app (ok_app (h x (by simp)) hs) (ok_join hs (y :: r) fun z hz => h z (List.mem_cons_of_mem _ hz))
theorem ok_repr {x : Str} (h : ∀ c ∈ x.cps.toList, c < 128) : Ok (reprText x) := by
  have rc : ∀ q ∈ [39, 34], ∀ c ∈ List.range 128, okc (PySem.Builtin.Str.reprChar q c) = true := by decide +kernel
  have hq : ∃ q ∈ [39, 34], reprQuote x = q := by
    unfold reprQuote
    split
    · exact ⟨34, by simp, rfl⟩
    · exact ⟨39, by simp, rfl⟩
  obtain ⟨q, hq, eq⟩ := hq
  unfold reprText Ok
  rw [eq]
  have e2 : ∀ (l : List Nat) (acc : Array Nat), (∀ c ∈ l, c < 128) → okc acc.toList = true → okc (l.foldl (fun out c => out ++ (PySem.Builtin.Str.reprChar q c).toArray) acc).toList = true := fun l => by
    induction l with
    | nil => intro acc _ h; exact h
    | cons c l ih =>
      intro acc hc ha
      rw [List.foldl_cons]
      refine ih _ (fun x hx => hc x (List.mem_cons_of_mem _ hx)) ?_
      unfold okc at *
      rw [Array.toList_append, List.all_append, ha]
      exact rc q hq c (List.mem_range.mpr (hc c List.mem_cons_self))
  have e3 := e2 x.cps.toList #[q] h (by
    simp only [List.mem_cons, List.not_mem_nil, or_false] at hq
    rcases hq with rfl | rfl <;> rfl)
  rw [Array.foldl_toList] at e3
  unfold okc at e3 ⊢
  show (Array.push _ _).toList.all _ = true
  rw [Array.toList_push, List.all_append, e3]
  simp only [List.mem_cons, List.not_mem_nil, or_false] at hq
  rcases hq with rfl | rfl <;> rfl
theorem asc_ok : ∀ {d : D}, dat d = true → asc d = true → Ok (shw d) := by
  have A : ∀ n : Nat, ∀ d : D, sizeOf d ≤ n → dat d = true → asc d = true → ∃ p, d.pyd = some p ∧ Ok p.shown := by
    intro n
    induction n with
    | zero =>
      intro d h
      cases d <;> simp at h
    | succ n ih =>
      have L : ∀ ds : List D, sizeOf ds ≤ n → dats ds = true → ascs ds = true → ∃ ps, D.pyds ds = some ps ∧ ∀ x ∈ PyData.shownAll ps, Ok x := by
        intro ds
        induction ds with
        | nil => intro _ _ _; exact ⟨[], by simp only [D.pyds], by simp [PyData.shownAll_nil]⟩
        | cons d ds ih2 =>
          intro hs h ha
          simp only [dats_cons, Bool.and_eq_true] at h
          simp only [ascs, Bool.and_eq_true] at ha
          simp only [List.cons.sizeOf_spec] at hs
          obtain ⟨p, h1, h2⟩ := ih d (by omega) h.1 ha.1
          obtain ⟨ps, h3, h4⟩ := ih2 (by omega) h.2 ha.2
          refine ⟨p :: ps, by simp only [D.pyds, h1, h3]; rfl, fun x hx => ?_⟩
          rw [PyData.shownAll_cons] at hx
          rcases List.mem_cons.mp hx with rfl | hx
          · exact h2
          · exact h4 x hx
      intro d hs h ha
      cases d with
      | non => exact ⟨.none, rfl, by simp only [PyData.shown]; exact ok_of _⟩
      | bl b => exact ⟨.bool b, rfl, by simp only [PyData.shown]; cases b <;> exact ok_of _⟩
      | int i => exact ⟨.int i, rfl, by simp only [PyData.shown]; exact ok_of _⟩
      | str x =>
        refine ⟨.str x, rfl, ?_⟩
        rw [PyData.shown_str]
        refine ok_repr fun c hc => ?_
        simp only [asc, List.all_eq_true] at ha
        exact of_decide_eq_true (ha c hc)
      | tup ds =>
        simp only [D.tup.sizeOf_spec] at hs
        rw [dat_tup] at h
        rw [asc_tup] at ha
        obtain ⟨ps, h1, h2⟩ := L ds (by omega) h ha
        refine ⟨.tuple ps, by simp only [D.pyd, h1]; rfl, ?_⟩
        rw [PyData.shown_tuple]
        refine ok_app (ok_app (ok_of _) (ok_join (ok_of _) _ h2)) ?_
        split <;> exact ok_of _
      | lst ds =>
        simp only [D.lst.sizeOf_spec] at hs
        rw [dat_lst] at h
        rw [asc_lst] at ha
        obtain ⟨ps, h1, h2⟩ := L ds (by omega) h ha
        refine ⟨.list ps, by simp only [D.pyd, h1]; rfl, ?_⟩
        rw [PyData.shown_list]
        exact ok_app (ok_app (ok_of _) (ok_join (ok_of _) _ h2)) (ok_of _)
      | dct kvs =>
        simp only [dat, Option.any_eq_true, Bool.and_eq_true, decide_eq_true_eq] at h
        obtain ⟨ps, h1, h2, h3, h4⟩ := h
        have e : (D.dct kvs).pyd = some (.dict ps) := by simp only [D.pyd, h1]; rfl
        refine ⟨.dict ps, e, ?_⟩
        simp only [asc] at ha
        unfold shw at ha
        rw [e] at ha
        exact ha
      | _ => simp [dat] at h
  intro d h ha
  obtain ⟨p, h1, h2⟩ := A (sizeOf d) d (Nat.le_refl _) h ha
  unfold shw
  rw [h1]
  exact h2
end
end Lb
set_option Elab.async false
set_option linter.all false
set_option maxRecDepth 100000
set_option maxHeartbeats 4000000
set_option exponentiation.threshold 20000
namespace D4
open PySem PySem.Spec L2 PM Lb
open D1 (Fr Fr.refl Fr.trans fr_set pen Pn Pn.le Pn.set Pn.app sml_b)
section
variable {n : Nat} {cs : List Int} {N : Int} {store s : List Cell} {st : State}
theorem odd_dat : ∀ d ∈ oddA ++ oddB ++ oddC, dat d = true ∧ wt d ≤ 8000 ∧ dep d ≤ 3 ∧ asc d = true := by decide +kernel
theorem opAdd_l {a b : List D} (h : a.length + b.length ≤ lim) : opAdd (.lst a) (.lst b) = some (.ow (.ls (a ++ b))) := by simp [opAdd, h]
theorem opAdd_t {a b : List D} (h : a.length + b.length ≤ lim) : opAdd (.tup a) (.tup b) = some (.sh (.tup (a ++ b))) := by simp [opAdd, h]
/-- what comes of bending -/
def Bt (d x : D) : Prop := dat x = true ∧ wt x ≤ 2 * wt d + 8000 ∧ dep x ≤ dep d + 3 ∧ asc x = true
theorem log_lt {i : Int} {k : Nat} (h : i.natAbs < 2 ^ k) (hk : 0 < k) : i.natAbs.log2 < k := by
  by_cases h0 : i.natAbs = 0
  · rw [h0]; simpa using hk
  · exact (Nat.log2_lt h0).mpr h
theorem bent_odd {k : Nat} (d : D) (hd : dat d = true) (h : Pn n cs N store) (hN : N ≤ 600000000) (hdc : isDc d = false) (hT : ((isL d || isT d) = true → ∃ ds, (d = .lst ds ∨ d = .tup ds) ∧ ds.length = 0)) (hI : isI d = false) : ∃ r s', F__law_bent (k + 1) [.obj n, d] store = .ret r s' ∧ ∃ x, Is r x ∧ Bt d x ∧ Pn n cs (N + 100) s' ∧ Fr n store s' := by
  obtain ⟨x, s1, a1, a2, a3, a4⟩ := p_odd h (by omega)
  obtain ⟨b1, b2, b3, b4⟩ := odd_dat x a4
  refine ⟨.sh x, s1, ?_, x, is_sh, ⟨b1, by omega, by omega, b4⟩, a2.le (by omega), a3⟩
  have hv := fun st => view_dat (st := st) hd
  have e1 := e_isLT hd
  have e2 := e_isDc hd
  have e3 := e_isIn hd
  have e4 := e_isB hd
  rw [hdc] at e2
  rw [hI, Bool.false_or] at e3
  refine at_eq fun Z hZ => ?_
  by_cases ht : (isL d || isT d) = true
  · obtain ⟨ds, hds, h0⟩ := hT ht
    rw [ht] at e1
    have hb : isB d = false := by rcases hds with rfl | rfl <;> rfl
    rw [hb] at e3 e4
    have ln : opLen d = some (.sh (.int 0)) := by rcases hds with rfl | rfl <;> simp [opLen, h0]
    simp [F__law_bent, runF, m__law_bent, entry, mV, hv, e1, e2, e3, e4, ln, a1]
    exact hZ
  · rw [Bool.not_eq_true] at ht
    rw [ht] at e1
    cases hb : isB d with
    | true =>
      rw [hb] at e3 e4
      simp [F__law_bent, runF, m__law_bent, entry, mV, hv, e1, e2, e3, e4, a1]
      exact hZ
    | false =>
      rw [hb] at e3 e4
      simp [F__law_bent, runF, m__law_bent, entry, mV, hv, e1, e2, e3, e4, a1]
      exact hZ
theorem p_bent : ∀ (k : Nat) (d : D) (N : Int) (store : List Cell), dep d < k → nb d = true → wt d ≤ 300000 → Pn n cs N store → N + 200 * k ≤ 500000000 →
    ∃ r s', F__law_bent k [.obj n, d] store = .ret r s' ∧ ∃ x, Is r x ∧ Bt d x ∧ Pn n cs (N + 200 * k) s' ∧ Fr n store s'
  | 0, _, _, _, h, _, _, _, _ => by omega
  | k + 1, d, N, store, hk, hn, hw, h, hN => by
    have hd := nb_dat hn
    -- a sequence
    have seq : ∀ (ds : List D) (l : Bool), (d = if l then .lst ds else .tup ds) → ∃ r s', F__law_bent (k + 1) [.obj n, d] store = .ret r s' ∧ ∃ x, Is r x ∧ Bt d x ∧ Pn n cs (N + 200 * (k + 1)) s' ∧ Fr n store s' := by
      intro ds l hl
      have nbs' : nbs ds = true := by cases l <;> subst hl <;> simpa [nb_tup, nb_lst] using hn
      have ed : dats ds = true := by cases l <;> subst hl <;> simpa using hd
      have ew : wt d = wts ds + 3 := by cases l <;> subst hl <;> simp
      have ep : dep d = deps ds + 1 := by cases l <;> subst hl <;> simp
      have wl := wts_len (ds := ds)
      by_cases h0 : ds.length = 0
      · obtain ⟨r, s', e1, x, e2, e3, e4, e5⟩ := bent_odd (k := k) d hd h (by omega) (by cases l <;> subst hl <;> rfl) (fun _ => ⟨ds, by cases l <;> subst hl <;> simp, h0⟩) (by cases l <;> subst hl <;> rfl)
        exact ⟨r, s', e1, x, e2, e3, e4.le (by omega), e5⟩
      have hv := fun st => view_dat (st := st) hd
      have e1 := e_isLT hd
      have e2 := e_isDc hd
      have e3 := e_isIn hd
      have eL := e_isL hd
      have t1 : (isL d || isT d) = true := by cases l <;> subst hl <;> rfl
      have t2 : isDc d = false := by cases l <;> subst hl <;> rfl
      have t3 : (isI d || isB d) = false := by cases l <;> subst hl <;> rfl
      have t4 : isL d = l := by cases l <;> subst hl <;> rfl
      rw [t1] at e1; rw [t2] at e2; rw [t3] at e3; rw [t4] at eL
      have ln : opLen d = some (.sh (.int (ds.length : Int))) := by cases l <;> subst hl <;> simp
      have lp : (0 : Int) < (ds.length : Int) := by omega
      obtain ⟨i, s1, a1, a2, a3, a4, a5⟩ := p_draw 6 (by decide) (nat_lt (k := 3) (by decide) (by decide)) h (by omega)
      by_cases hi : 0 < i
      · obtain ⟨j, s2, b1, b2, b3, b4, b5⟩ := p_draw (ds.length : Int) (by omega) (nat_lt (k := 30) (by omega) (by decide)) a2 (by omega)
        obtain ⟨w, s3, c1, c2, c3, c4, c5⟩ := p_draw 9 (by decide) (nat_lt (k := 4) (by decide) (by decide)) b2 (by omega)
        obtain ⟨J, rfl⟩ := Int.eq_ofNat_of_zero_le b4
        have hJ : J < ds.length := by omega
        obtain ⟨y, hy⟩ : ∃ y, ds[J]? = some y := ⟨_, List.getElem?_eq_getElem hJ⟩
        have my := List.mem_of_getElem? hy
        have wy := wts_at hy
        have dy := deps_mem my
        -- the parts
        let S : List D → RV := fun xs => if l then .ow (.ls xs) else .sh (.tup xs)
        let V : List D → D := fun xs => if l then .lst xs else .tup xs
        have isS : ∀ xs, Is (S xs) (V xs) := fun xs => by cases l; exact is_sh; exact is_ow
        have bS : ∀ xs, (S xs).bor = .sh (V xs) := fun xs => (isS xs).bor
        have vV : ∀ xs st, view st (.sh (V xs)) = some (V xs) := fun xs st => by cases l <;> rfl
        have sl : ∀ a b, opSl d a b = some (S (cut ds a b)) := fun a b => by cases l <;> subst hl <;> rfl
        have slV : ∀ xs a b, opSl (V xs) a b = some (S (cut xs a b)) := fun xs a b => by cases l <;> rfl
        have rv : ∀ xs, opRev (V xs) = some (S xs.reverse) := fun xs => by cases l <;> rfl
        have ad : ∀ xs ys : List D, xs.length + ys.length ≤ lim → opAdd (V xs) (V ys) = some (S (xs ++ ys)) := fun xs ys hh => by cases l; exact opAdd_t hh; exact opAdd_l hh
        have ix : opIx d (.int (J : Int)) = some (.sh y) := by
          have z := atI_nat hy
          cases l <;> subst hl
          · exact (opIx_t).trans (by rw [z]; rfl)
          · exact (opIx_l).trans (by rw [z]; rfl)
        have cutl : ∀ a b, (cut ds a b).length ≤ ds.length := fun a b => (cut_sub ds a b).length_le
        have cutd : ∀ (xs : List D) a b, dats xs = true → dats (cut xs a b) = true := fun xs a b => dats_sub (cut_sub xs a b)
        have cutw : ∀ (xs : List D) a b, wts (cut xs a b) ≤ wts xs := fun xs a b => wts_sub (cut_sub xs a b)
        have cutp : ∀ (xs : List D) a b, deps (cut xs a b) ≤ deps xs := fun xs a b => deps_sub (cut_sub xs a b)
        have fin : ∀ xs, dats xs = true → wts xs ≤ 2 * wts ds + 8000 → deps xs ≤ deps ds + 3 → (∀ y ∈ xs, asc y = true) → Bt d (V xs) := fun xs h1 h2 h3 h4 => by
          refine ⟨by cases l <;> simpa [V] using h1, ?_, ?_⟩
          · have : wt (V xs) = wts xs + 3 := by cases l <;> simp [V]
            omega
          · refine ⟨?_, by
              have := ascs_of h4
              cases l
              · simp only [V, asc_tup, Bool.false_eq_true, if_false]; exact this
              · simp only [V, asc_lst, if_true]; exact this⟩
            have : dep (V xs) = deps xs + 1 := by cases l <;> simp [V]
            omega
        have ads : ∀ y ∈ ds, asc y = true := fun y hy => nb_asc (nbs_mem nbs' hy)
        have cm : ∀ (xs : List D) a b, ∀ y ∈ cut xs a b, y ∈ xs := fun xs a b y hy => (cut_sub xs a b).mem hy
        have mA : ∀ y ∈ ds.take J, asc y = true := fun y hy => ads y (List.mem_of_mem_take hy)
        have mB : ∀ y ∈ ds.drop (J + 1), asc y = true := fun y hy => ads y (List.mem_of_mem_drop hy)
        have h12 : ds.length ≤ 150000 := by omega
        have lt1 : (ds.take J).length ≤ ds.length := (List.take_sublist ..).length_le
        have lt2 : (ds.drop (J + 1)).length ≤ ds.length := (List.drop_sublist ..).length_le
        have ct := cut_to ds J
        have cf : cut ds (some ((J : Int) + 1)) none = ds.drop (J + 1) := cut_from ds (J + 1)
        have dt1 : dats (ds.take J) = true := dats_sub (List.take_sublist ..) ed
        have dt2 : dats (ds.drop (J + 1)) = true := dats_sub (List.drop_sublist ..) ed
        have pt1 : deps (ds.take J) ≤ deps ds := deps_sub (List.take_sublist ..)
        have pt2 : deps (ds.drop (J + 1)) ≤ deps ds := deps_sub (List.drop_sublist ..)
        have lp' : 0 < ds.length := by omega
        generalize eA : ds.take J = A at *
        generalize eB : ds.drop (J + 1) = B at *
        by_cases w6 : w < 6
        · obtain ⟨r, s4, f1, x, f2, f3, f4, f5⟩ := p_bent k y (N + 8 + 8 + 8) s3 (by omega) (nbs_mem nbs' my) (by omega) c2 (by omega)
          obtain ⟨g1, g2, g3, g4⟩ := f3
          refine at_ret fun Z hZ => ?_
          have z := hZ (S (A ++ [x] ++ B)) s4 ⟨_, isS _, fin (A ++ [x] ++ B) (by simp [dats_app, dt1, dt2, g1]) (by simp [wts_app]; omega) (by simp [deps_app]; omega) (fun y hy => by
            rcases List.mem_append.mp hy with hy | hy
            · rcases List.mem_append.mp hy with hy | hy
              · exact mA y hy
              · rw [List.mem_singleton.mp hy]; exact g4
            · exact mB y hy), f4.le (by push_cast; omega), ((a3.trans b3).trans c3).trans f5⟩
          have l1 : A.length + [x].length ≤ lim := by simp [lim]; omega
          have l2 : (A ++ [x]).length + B.length ≤ lim := by simp [lim]; omega
          have ad1 := ad A [x] l1
          have ad2 := ad (A ++ [x]) B l2
          have sl1 := sl none (some (J : Int))
          have sl2 := sl (some ((J : Int) + 1)) none
          rw [ct] at sl1
          rw [cf] at sl2
          have qa := fun st Z => f2.at (st := st) (s := s4) (Z := Z)
          have q : ∀ st, RV.frz r st = .ok x st := fun st => f2.frz
          clear ad l1 l2 fin sl slV rv eA eB ct cf
          generalize A ++ [x] ++ B = AxB at *
          generalize eAx : A ++ [x] = Ax at *
          cases l <;> simp only [S, V, if_true, Bool.false_eq_true, if_false] at ad1 ad2 sl1 sl2 z
          · simp [F__law_bent, runF, m__law_bent, entry, mV, mVar, view_lo, hv, e1, e2, e3, a1, hi, b1, c1, ln, lp, lp', sl1, sl2, eL, ix, S, w6, f1, qa, q, ad1, ad2]
            exact z
          · simp [F__law_bent, runF, m__law_bent, entry, mV, mVar, view_lo, hv, e1, e2, e3, a1, hi, b1, c1, ln, lp, lp', sl1, sl2, eL, ix, S, w6, f1, qa, q, ad1, ad2]
            exact z
        · by_cases w6' : w = 6
          · refine at_ret fun Z hZ => ?_
            have z := hZ (S (A ++ B)) s3 ⟨_, isS _, fin (A ++ B) (by simp [dats_app, dt1, dt2]) (by simp [wts_app]; omega) (by simp [deps_app]; omega) (fun y hy => (List.mem_append.mp hy).elim (mA y) (mB y)), c2.le (by push_cast; omega), (a3.trans b3).trans c3⟩
            have ad1 := ad A B (by simp [lim]; omega)
            have sl1 := sl none (some (J : Int))
            have sl2 := sl (some ((J : Int) + 1)) none
            rw [ct] at sl1
            rw [cf] at sl2
            clear ad fin sl slV rv eA eB ct cf
            generalize A ++ B = AB at *
            subst w6'
            cases l <;> simp only [S, V, if_true, Bool.false_eq_true, if_false] at ad1 sl1 sl2 z
            · simp [F__law_bent, runF, m__law_bent, entry, mV, mVar, view_lo, hv, e1, e2, e3, a1, hi, b1, c1, ln, lp, lp', sl1, sl2, eL, ix, S, ad1]
              exact z
            · simp [F__law_bent, runF, m__law_bent, entry, mV, mVar, view_lo, hv, e1, e2, e3, a1, hi, b1, c1, ln, lp, lp', sl1, sl2, eL, ix, S, ad1]
              exact z
          · by_cases w7 : w = 7
            · refine at_ret fun Z hZ => ?_
              have q1 := cutl none (some ((J : Int) + 1))
              have q2 := cutl (some (J : Int)) none
              have q3 := cutd ds none (some ((J : Int) + 1)) ed
              have q4 := cutd ds (some (J : Int)) none ed
              have q5 := cutw ds none (some ((J : Int) + 1))
              have q6 := cutw ds (some (J : Int)) none
              have q7 := cutp ds none (some ((J : Int) + 1))
              have q8 := cutp ds (some (J : Int)) none
              have qm1 := cm ds none (some ((J : Int) + 1))
              have qm2 := cm ds (some (J : Int)) none
              have sl3 := sl none (some ((J : Int) + 1))
              have sl4 := sl (some (J : Int)) none
              have sl1 := sl none (some (J : Int))
              have sl2 := sl (some ((J : Int) + 1)) none
              rw [ct] at sl1
              rw [cf] at sl2
              generalize cut ds none (some ((J : Int) + 1)) = A' at *
              generalize cut ds (some (J : Int)) none = B' at *
              have z := hZ (S (A' ++ B')) s3 ⟨_, isS _, fin (A' ++ B') (by simp [dats_app, q3, q4]) (by simp [wts_app]; omega) (by simp [deps_app]; omega) (fun y hy => (List.mem_append.mp hy).elim (fun h => ads y (qm1 y h)) fun h => ads y (qm2 y h)), c2.le (by push_cast; omega), (a3.trans b3).trans c3⟩
              have ad1 := ad A' B' (by simp [lim]; omega)
              clear ad fin sl slV rv eA eB ct cf
              generalize A' ++ B' = AB at *
              subst w7
              cases l <;> simp only [S, V, if_true, Bool.false_eq_true, if_false] at ad1 sl1 sl2 sl3 sl4 z
              · simp [F__law_bent, runF, m__law_bent, entry, mV, mVar, view_lo, hv, e1, e2, e3, a1, hi, b1, c1, ln, lp, lp', sl1, sl2, eL, ix, S, sl3, sl4, ad1]
                exact z
              · simp [F__law_bent, runF, m__law_bent, entry, mV, mVar, view_lo, hv, e1, e2, e3, a1, hi, b1, c1, ln, lp, lp', sl1, sl2, eL, ix, S, sl3, sl4, ad1]
                exact z
            · refine at_ret fun Z hZ => ?_
              have q1 := cutl (some (J : Int)) (some ((J : Int) + 2))
              have q3 := dats_rev (cutd ds (some (J : Int)) (some ((J : Int) + 2)) ed)
              have q5 := cutw ds (some (J : Int)) (some ((J : Int) + 2))
              rw [← wts_rev] at q5
              have q7 := Nat.le_trans deps_rev (cutp ds (some (J : Int)) (some ((J : Int) + 2)))
              have q9 := cutd B (some 1) none dt2
              have q10 := cutw B (some 1) none
              have q11 := cutp B (some 1) none
              have q12 := (cut_sub B (some 1) none).length_le
              have qm1 : ∀ y ∈ (cut ds (some (J : Int)) (some ((J : Int) + 2))).reverse, y ∈ ds := fun y hy => cm ds _ _ y (List.mem_reverse.mp hy)
              have qm2 := cm B (some 1) none
              have sl3 := sl (some (J : Int)) (some ((J : Int) + 2))
              have rv1 := rv (cut ds (some (J : Int)) (some ((J : Int) + 2)))
              have sl4 := slV B (some 1) none
              have sl1 := sl none (some (J : Int))
              have sl2 := sl (some ((J : Int) + 1)) none
              have q13 : (cut ds (some (J : Int)) (some ((J : Int) + 2))).reverse.length ≤ ds.length := by rw [List.length_reverse]; exact q1
              rw [ct] at sl1
              rw [cf] at sl2
              generalize (cut ds (some (J : Int)) (some ((J : Int) + 2))).reverse = C' at *
              generalize cut ds (some (J : Int)) (some ((J : Int) + 2)) = C at *
              generalize cut B (some 1) none = B' at *
              have z := hZ (S (A ++ C' ++ B')) s3 ⟨_, isS _, fin (A ++ C' ++ B') (by simp [dats_app, q3, q9, dt1]) (by simp [wts_app]; omega) (by simp [deps_app]; omega) (fun y hy => by
                rcases List.mem_append.mp hy with hy | hy
                · rcases List.mem_append.mp hy with hy | hy
                  · exact mA y hy
                  · exact ads y (qm1 y hy)
                · exact mB y (qm2 y hy)), c2.le (by push_cast; omega), (a3.trans b3).trans c3⟩
              have ad1 := ad A C' (by simp [lim]; omega)
              have ad2 := ad (A ++ C') B' (by simp [lim]; omega)
              clear ad fin sl slV rv eA eB ct cf
              generalize A ++ C' ++ B' = AB at *
              generalize A ++ C' = AC at *
              cases l <;> simp only [S, V, if_true, Bool.false_eq_true, if_false] at ad1 ad2 rv1 sl1 sl2 sl3 sl4 z
              · simp [F__law_bent, runF, m__law_bent, entry, mV, mVar, view_lo, hv, e1, e2, e3, a1, hi, b1, c1, ln, lp, lp', sl1, sl2, eL, ix, S, w6, w6', w7, sl3, sl4, rv1, ad1, ad2]
                exact z
              · simp [F__law_bent, runF, m__law_bent, entry, mV, mVar, view_lo, hv, e1, e2, e3, a1, hi, b1, c1, ln, lp, lp', sl1, sl2, eL, ix, S, w6, w6', w7, sl3, sl4, rv1, ad1, ad2]
                exact z
      · obtain ⟨x, s2, b1, b2, b3, b4⟩ := p_odd a2 (by omega)
        obtain ⟨g1, g2, g3, g4⟩ := odd_dat x b4
        refine at_ret fun Z hZ => ?_
        have z := hZ (.sh x) s2 ⟨x, is_sh, ⟨g1, by omega, by omega, g4⟩, b2.le (by push_cast; omega), a3.trans b3⟩
        have lp' : 0 < ds.length := by omega
        simp [F__law_bent, runF, m__law_bent, entry, mV, mVar, view_lo, hv, e1, e2, e3, a1, hi, b1, ln, lp, lp']
        exact z
    cases d with
    | tup ds => exact seq ds false rfl
    | lst ds => exact seq ds true rfl
    | int i =>
      have hi : i.natAbs < 2 ^ 1800 := by
        simp only [nb, decide_eq_true_eq] at hn
        by_cases h0 : i.natAbs = 0
        · rw [h0]; exact Nat.two_pow_pos _
        · exact (Nat.log2_lt h0).mp hn
      have e1 := e_isLT hd
      have e2 := e_isDc hd
      have e3 := e_isIn hd
      have e4 := e_isB hd
      simp only [isL, isT, isDc, isI, isB, Bool.or_false] at e1 e2 e3 e4
      obtain ⟨a, s1, a1, a2, a3, a4, a5⟩ := p_draw 6 (by decide) (nat_lt (k := 3) (by decide) (by decide)) h (by omega)
      by_cases ha : 0 < a
      · have m1 : opMul (.int 2) (.int i) = some (.sh (.int (2 * i))) := opMul_i (by decide) (sml_of hi (by decide))
        have q0 : (2 : Nat) ^ 1801 = 2 * 2 ^ 1800 := Nat.pow_succ'
        have q1 : (1 : Nat) ≤ 2 ^ 1800 := Nat.one_le_two_pow
        have big : ∀ j : Int, j.natAbs ≤ 2 * i.natAbs + 1 → dat (.int j) = true := fun j hj => by
          rw [dat_int, decide_eq_true_eq]
          refine Nat.lt_trans (log_lt (k := 1802) ?_ (by decide)) (by decide)
          rw [show (2 : Nat) ^ 1802 = 2 * 2 ^ 1801 from Nat.pow_succ']
          generalize (2 : Nat) ^ 1800 = P at *
          omega
        obtain ⟨x, s2, b1, b2, b3, b4⟩ := p_pick [.int (i + 1), .int (i - 1), .int (0 - i), .int (2 * i), .bl (decide (i = 1)), .tup [.int i], .non] (by simp) (by simp) a2 (by omega)
        have g : Bt (.int i) x := by
          clear q0 q1 b1 b2 b3 m1
          simp only [List.mem_cons, List.not_mem_nil, or_false] at b4
          rcases b4 with rfl | rfl | rfl | rfl | rfl | rfl | rfl
          · exact ⟨big _ (by omega), by simp, by simp, by simp only [asc]⟩
          · exact ⟨big _ (by omega), by simp, by simp, by simp only [asc]⟩
          · exact ⟨big _ (by omega), by simp, by simp, by simp only [asc]⟩
          · exact ⟨big _ (by omega), by simp, by simp, by simp only [asc]⟩
          · exact ⟨by simp, by simp, by simp, by simp only [asc]⟩
          · have := big i (by omega)
            exact ⟨by simpa using this, by simp, by simp, by simp [asc, ascs]⟩
          · exact ⟨by simp, by simp, by simp, by simp only [asc]⟩
        refine at_ret fun Z hZ => ?_
        have z := hZ (.sh x) s2 ⟨x, is_sh, g, b2.le (by push_cast; omega), a3.trans b3⟩
        clear q0 q1 big hi hn hd
        simp [F__law_bent, runF, m__law_bent, entry, mV, mVar, view_lo, e1, e2, e3, e4, a1, ha, m1]
        rw [Int.zero_sub] at b1
        simp [b1]
        exact z
      · obtain ⟨x, s2, b1, b2, b3, b4⟩ := p_odd a2 (by omega)
        obtain ⟨g1, g2, g3, g4⟩ := odd_dat x b4
        refine at_ret fun Z hZ => ?_
        have z := hZ (.sh x) s2 ⟨x, is_sh, ⟨g1, by omega, by omega, g4⟩, b2.le (by push_cast; omega), a3.trans b3⟩
        simp [F__law_bent, runF, m__law_bent, entry, mV, mVar, view_lo, e1, e2, e3, e4, a1, ha, b1]
        exact z
    | non | bl b =>
      obtain ⟨r, s', e1, x, e2, e3, e4, e5⟩ := bent_odd (k := k) _ hd h (by omega) rfl (fun z => by simp [isL, isT] at z) rfl
      exact ⟨r, s', e1, x, e2, e3, e4.le (by push_cast; omega), e5⟩
    | _ => simp [nb] at hn
end
end D4
set_option Elab.async false
set_option linter.all false
set_option maxRecDepth 100000
set_option maxHeartbeats 4000000
set_option exponentiation.threshold 9000
/-! what the methods of Wishes answer -/
namespace Lb
open PySem PySem.Spec L2 PM
section
variable {s : List Cell} {st : State} {o a b : O} {p q : Pr} {ps qs : List Pr}
theorem s_tupn (ds : List D) (k : Int) : F_is_tuple_of [.tup ds, .int k] s = .ret (.sh (.bl (decide ((ds.length : Int) = k)))) s := by
  simp [F_is_tuple_of, runF, m_is_tuple_of, entry, mV]
theorem s_ispair : F_is_pair [pr p] s = .ret (.sh (.bl true)) s := by
  have t : F_is_tuple_of [pr p, .int 2] s = .ret (.sh (.bl true)) s := s_tupn [op p.1, op p.2] 2
  have c : kCo [1] (gN 1) mYes (mBl (mOr (mCmp opIs2 (mV 1) (mL .non)) (mB (mCall 1 F_is_fraction (mCons (mV 1) (mNil)))))) [op p.1, op p.2] ⟨[.sh (pr p), .un], s⟩ = .ok (.ow (.ls ([op p.1, op p.2].map fun _ => .bl true))) ⟨[.sh (pr p), .un], s⟩ := by
    refine (kCo_map (fun _ => .bl true) (by simp [lim]) (by simp) fun d hd => ?_).trans (by simp)
    obtain ⟨o, rfl⟩ : ∃ o, d = op o := by
      simp only [List.mem_cons, List.not_mem_nil, or_false] at hd
      rcases hd with rfl | rfl <;> exact ⟨_, rfl⟩
    refine ⟨⟨[.sh (pr p), .sh (op o)], s⟩, ⟨[.sh (pr p), .sh (op o)], s⟩, by simp, ?_, by simp⟩
    rw [r_frz]
    cases o with
    | none => simp [mV]
    | some q => simp [mV, s_isfr q]
  have e : asIt (pr p) = some [op p.1, op p.2] := rfl
  have al : opAll (.lst ([op p.1, op p.2].map fun _ => D.bl true)) = some (.sh (.bl true)) := rfl
  simp only [List.map_cons, List.map_nil] at c al
  simp [F_is_pair, runF, m_is_pair, entry, mV, t, e, c, al]
theorem all_true (l : List Pr) : opAll (.lst ((l.map pr).map fun _ => D.bl true)) = some (.sh (.bl true)) := by
  rw [List.map_map]
  refine (opAll_m (fun _ => true) l).trans ?_
  simp
@[simp] theorem fl_kept : flO ["Wishes"] "Wishes" "kept" [("kept", .tup (ps.map pr))] = some (.sh (.tup (ps.map pr))) := flO_e (by decide) rfl
@[simp] theorem view_wi : view st (.sh (wi ps)) = some (wi ps) := rfl
/-! ends -/
def gl : O → O → O
  | none, x => x
  | some a, none => some a
  | some a, some b => some (hi a b)
def lh : O → O → O
  | none, x => x
  | some a, none => some a
  | some a, some b => some (lo a b)
def jn (p q : Pr) : Pr := (gl p.1 q.1, lh p.2 q.2)
def J (ps qs : List Pr) : List Pr := List.zipWith jn ps qs
end
end Lb
set_option Elab.async false
set_option linter.all false
set_option maxRecDepth 100000
set_option maxHeartbeats 1200000
namespace PM
open PySem PySem.Spec L2
/-! ### reckoning comprehensions over a list of the store, or over data -/
section
variable {own : List Nat} {g : D → State → Option State} {t : M Bool} {e a : M RV} {st : State} {env : List Slot} {store : List Cell} {K : Out RV → Prop}
def kCoO (own : List Nat) (g : D → State → Option State) (t : M Bool) (e : M RV) (r : RV) (st : State) : Out RV := match srcOf r with
  | none => .stuck
  | some src => match src.at st with
    | none => .stuck
    | some _ => kCo2 (mCompS own src g t e 1000 0 [] (st.wipe own))
@[simp] theorem r_compO : mCompO own a g t e st = (a st).bd (kCoO own g t e) := by
  show (a st).bd (fun r st => match srcOf r with
    | none => .stuck
    | some src => match src.at st with
      | none => .stuck
      | some _ => match mCompS own src g t e 1000 0 [] (st.wipe own) with
        | .ok xs st' => Out.ok (RV.ow (.ls xs)) st'
        | _ => .stuck) = _
  congr 1
theorem compS_map {α : Type} (φ k : α → D) {src : Src} {xs : List α} {env0 : List Slot} (hw : wipeE env0 own = env0) (hsrc : ∀ env, src.at ⟨env, store⟩ = some (xs.map φ))
    (hs : ∀ x ∈ xs, ∀ Z : Out (Option D) → Prop, (∀ env3, wipeE env3 own = env0 → Z (.ok (some (k x)) ⟨env3, store⟩)) → At (kCs t e (g (φ x) ⟨env0, store⟩)) Z) :
    ∀ (f i : Nat), i ≤ xs.length → xs.length < i + f → xs.length ≤ lim → mCompS own src g t e f i ((xs.take i).map k) ⟨env0, store⟩ = .ok (xs.map k) ⟨env0, store⟩
  | 0, i, h1, h2, _ => absurd h2 (by omega)
  | f + 1, i, h1, h2, h3 => by
    unfold mCompS
    rw [hsrc]
    simp only
    by_cases hi : i < xs.length
    · have e1 : (xs.map φ)[i]? = some (φ xs[i]) := by rw [List.getElem?_map, List.getElem?_eq_getElem hi]; rfl
      rw [e1]
      simp only [wipe_e, hw]
      have rest := compS_map φ k hw hsrc hs f (i + 1) hi (by omega) h3
      have et : (xs.take (i + 1)).map k = (xs.take i).map k ++ [k xs[i]] := by
        rw [List.take_succ, List.getElem?_eq_getElem hi, List.map_append]
        rfl
      rw [et] at rest
      have hl : ((xs.take i).map k).length < lim := by rw [List.length_map, List.length_take]; omega
      obtain ⟨env3, q1, q2⟩ : ∃ env3, wipeE env3 own = env0 ∧ kCs t e (g (φ xs[i]) ⟨env0, store⟩) = .ok (some (k xs[i])) ⟨env3, store⟩ := hs xs[i] (List.getElem_mem hi) (fun o => ∃ env3, wipeE env3 own = env0 ∧ o = .ok (some (k xs[i])) ⟨env3, store⟩) fun env3 z => ⟨env3, z, rfl⟩
      revert q2
      unfold kCs
      cases h0 : g (φ xs[i]) ⟨env0, store⟩ with
      | none => intro q2; cases q2
      | some st1 =>
        simp only
        cases h2 : t st1 with
        | stuck => simp [Out.bd]
        | exc c s => simp [Out.bd]
        | ok b st2 =>
          cases b with
          | false => simp [Out.bd, kCe]
          | true =>
            have e3 : M.frz e st2 = (e st2).bd RV.frz := r_frz
            simp only [Out.bd, kCe, e3, if_true]
            cases h4 : e st2 with
            | stuck => simp [Out.bd]
            | exc c s => simp [Out.bd]
            | ok r st3 =>
              simp only [Out.bd, kCe1]
              cases h5 : RV.frz r st3 with
              | stuck => simp [Out.bd]
              | exc c s => simp [Out.bd]
              | ok y st4 =>
                simp only [Out.bd, kCe2]
                intro q2
                cases q2
                rw [if_pos hl, wipe_e, q1]
                exact rest
    · rw [List.getElem?_eq_none (by rw [List.length_map]; omega), List.take_of_length_le (by omega)]
theorem at_coO {α : Type} (φ k : α → D) {r : RV} {src : Src} {xs : List α} (hr : srcOf r = some src) (hsrc : ∀ env, src.at ⟨env, store⟩ = some (xs.map φ)) (hw : wipeE (wipeE env own) own = wipeE env own) (hl : xs.length < 1000)
    (hs : ∀ x ∈ xs, ∀ Z : Out (Option D) → Prop, (∀ env3, wipeE env3 own = wipeE env own → Z (.ok (some (k x)) ⟨env3, store⟩)) → At (kCs t e (g (φ x) ⟨wipeE env own, store⟩)) Z)
    (hk : At (.ok (.ow (.ls (xs.map k))) ⟨wipeE env own, store⟩) K) : At (kCoO own g t e r ⟨env, store⟩) K := by
  unfold kCoO
  rw [hr]
  simp only
  rw [hsrc]
  simp only [wipe_e]
  have := compS_map (store := store) φ k hw hsrc hs 1000 0 (by omega) (by omega) (by unfold lim; omega)
  rw [List.take_zero, List.map_nil] at this
  rw [this]
  exact hk
end
end PM
set_option Elab.async false
set_option linter.all false
set_option maxRecDepth 100000
set_option maxHeartbeats 4000000
set_option exponentiation.threshold 20000
local macro_rules
  | `(tactic| simp_arith [$ts,*] $[$l:location]?) => `(tactic| simp only [
    PM.kDeO4_s, PM.kDeO4_i, PM.kDeO3_e, PM.kDeO2_e, PM.kDeO1_e, PM.kDeO_t, PM.kDeO_f, PM.kDsO_s, PM.muR_e, PM.muL_e, PM.mu_loE, PM.muR2_e, PM.muS_e, PM.mu_obE, PM.fPop_l, PM.fRev_e, PM.upL2_e, PM.upL_e, 
    PM.up_loE, PM.upS2_e, PM.upS_e, PM.up_obE, PM.gT_2, PM.gT_3, PM.gT_4, PM.gTL_2, PM.gTL_3, PM.mV, PM.mVar, PM.view_lo, PM.runF, PM.entry0, PM.entry1, PM.entry2, PM.entry3, PM.entry4, PM.entry5, 
    PM.uns_0, PM.uns_s, PM.mRetV, PM.mRetN, PM.opEq_tn, PM.opEq_nn, PM.opEq_d0, PM.opNe_d0, PM.bd_ok, PM.bd_exc, PM.bd_stuck, PM.th_ok, PM.th_exc, PM.th_stuck, PM.sq_nx, PM.sq_rt, PM.sq_exc, PM.sq_bk, 
    PM.sq_ct, PM.sq_stuck, PM.lp_nx, PM.lp_ct, PM.lp_bk, PM.lp_rt, PM.lp_exc, PM.lp_stuck, PM.opt_some, PM.opt_none, PM.on1_e, PM.on2_e, PM.r_ofO, PM.r_at2, PM.r_at1, PM.r_pure, PM.r_mstuck, PM.r_mL, 
    PM.r_nx, PM.r_brk, PM.r_cnt, PM.r_stk, PM.r_seq, PM.r_nil, PM.r_yes, PM.r_no, PM.bor_sh, PM.bor_lo, PM.bor_ow, PM.frz_sh, PM.frz_ow, PM.frz_lo, PM.cfrz_ls, PM.cfrz_dc, PM.slot_sh, PM.slot_ow, 
    PM.isLo_sh, PM.isLo_ow, PM.fix_sh, PM.fix_ow, PM.fix_lo, PM.kOp2_e, PM.kOp_e, PM.r_op, PM.r_cmp, PM.kUn_e, PM.r_un, PM.r_Fm, PM.kBl_e, PM.r_bl, PM.kAnd_t, PM.kAnd_f, PM.kOr_t, PM.kOr_f, PM.kNot_e, 
    PM.kIf_t, PM.kIf_f, PM.kIfS_t, PM.kIfS_f, PM.r_and, PM.r_or, PM.r_not, PM.r_if, PM.r_ifs, PM.toB_bl, PM.r_B, PM.kC3_e, PM.kC2_e, PM.kC1_e, PM.r_cons, PM.kTup_0, PM.kTup_1, PM.kTup_2, PM.kTup_3, 
    PM.kTup_4, PM.kLst_0, PM.r_tup, PM.r_lst, PM.kSet2_e, PM.kSet_e, PM.r_set, PM.kRet2_e, PM.kRet_e, PM.r_ret, PM.kDrop_e, PM.r_drop, PM.kP4_e, PM.kP3_e, PM.kP2_e, PM.kP1_e, PM.r_par, PM.kG2_s, PM.kG2_n, 
    PM.kG1_e, PM.kG_e, PM.r_asg, PM.r_gN, PM.r_gnil, PM.r_gcons, PM.r_while, PM.kW_t, PM.kW_f, PM.kF_e, PM.r_for, PM.kFb_s, PM.kFb_n, PM.kM3_e, PM.kM2_e, PM.kM_e, PM.isSt_e, PM.isLst_e, PM.r_mS1, PM.r_mL1, 
    PM.asIt_t, PM.asIt_l, PM.kIt2_e, PM.kIt_e, PM.r_it, PM.kCall_0, PM.kCall_1, PM.kCall_2, PM.kCall_3, PM.kCall_4, PM.r_call, PM.ofF_sh, PM.ofF_ow, PM.ofF_exc, PM.toF_sh, PM.toF_ow, PM.toF_nx, PM.toF_exc, 
    PM.view_non, PM.view_bl, PM.view_int, PM.view_str, PM.view_tup, PM.view_lst, PM.view_lsF, PM.view_tpF, PM.view_dct, PM.view_rcd, PM.view_val, PM.atI_0, PM.atI_1, PM.atI_2, PM.opAdd_i, PM.opSub_i, 
    PM.opNeg_i, PM.opAbs_i, PM.opLt_i, PM.opLe_i, PM.opGt_i, PM.opGe_i, PM.kCo2_e, PM.r_comp, PM.wipe_e, PM.wipeE_n, PM.wipeE_1, PM.kU_s, PM.kU_n, PM.kU4_e, PM.kU3_e, PM.kU2_e, PM.kU1_e, PM.kU0_e, 
    PM.r_put, PM.kPt_e, PM.r_pt, PM.kS2_e, PM.kS1_e, PM.kS0_e, PM.r_sl, PM.r_js0, PM.r_js, PM.kJo_e, PM.r_join, PM.kNew_e, PM.r_new, PM.kD3_e, PM.kD2_e, PM.kD1'_e, PM.kD1_e, PM.kD0_e, PM.r_pr0, PM.r_pr, 
    PM.r_disp, PM.eq_str', PM.ne_str', PM.kB1_e, PM.kB2_e, PM.r_raise, PM.kRz_0, PM.kRz_1, PM.kRz_2, PM.kTry_nx, PM.kTry_rt, PM.kTry_bk, PM.kTry_ct, PM.kTry_exc, PM.r_try, PM.r_runH0, PM.r_runH, 
    PM.r_runS0, PM.r_runS1, PM.toD_0, PM.toD_1, PM.unS_nx, PM.unS_bk, PM.unS_ct, PM.unS_sh, PM.unS_ow, PM.noS_nx, PM.noS_rt, PM.noS_bk, PM.noS_ct, PM.r_isi, PM.r_isiX, PM.lkB_s, PM.isXG_0t, PM.isXG_0c, 
    PM.isXG_1t, PM.isXG_1c, PM.isG_rt, PM.isG_rc, PM.r_fld, PM.flG_r, PM.r_fldX, PM.fxG_e, PM.kSf2_e, PM.kSf_e, PM.kSf0_e, PM.r_setF, PM.kMk2_n, PM.kMk2_x, PM.r_make, PM.r_makeL, PM.r_fz, PM.r_bin, 
    PM.r_cmp2, PM.r_in2, PM.r_tru, PM.okB_e, PM.trG_b, PM.kN_0, PM.kN_1, PM.kN_2, PM.kN_3, PM.r_callN, PM.r_meth, PM.r_prop, PM.nXo_ok, PM.r_cm, PM.kCall_5, PM.kCall_6, PM.kSt3_e, PM.kSt2_e, PM.kSt1_e, 
    PM.kSt0_e, PM.r_star, PM.kZp2_e, PM.kZp1_e, PM.kZp0_e, PM.kZp_e, PM.r_zip, PM.r_boolC, PM.r_ch, PM.kCh2_e, PM.kCh1_t, PM.kCh1_f, PM.chG_e, PM.kCk_e, PM.r_callK, PM.kQ6_e, PM.kQ5_e, PM.kQ4_e, PM.kQ3_e, 
    PM.kQ2_e, PM.kQ1_e, PM.r_par3, PM.r_rg1, PM.bd_frz, PM.is2_nn, PM.is2_tn, PM.is2_in, PM.is2_sn, PM.is2_bb, PM.isn2_nn, PM.isn2_tn, PM.isn2_in, PM.isn2_bb, PM.isi_tt, PM.isi_lt, PM.isi_ii, PM.isi_ib, 
    PM.kMu2_e, PM.kMu_e, PM.isLs_e, PM.r_mut, PM.isi_l2, PM.isi_t2, PM.isXG_r, PM.bd_okB, PM.at_sq, PM.at_bd, PM.at_th, PM.at_tf, PM.at_of, PM.at_lp, PM.at_try, PM.at_unS, PM.at_noS, PM.at_mk, PM.at_nX, 
    PM.zSq_nx, PM.zSq_rt, PM.zSq_bk, PM.zSq_ct, PM.zSq_exc, PM.zBd_ok, PM.zBd_exc, PM.zTh_ok, PM.zTh_exc, PM.zTf_nx, PM.zTf_sh, PM.zTf_ow, PM.zTf_exc, PM.zOf_sh, PM.zOf_ow, PM.zOf_exc, PM.zLp_nx, 
    PM.zLp_ct, PM.zLp_bk, PM.zLp_rt, PM.zLp_exc, PM.zTry_nx, PM.zTry_rt, PM.zTry_bk, PM.zTry_ct, PM.zTry_exc, PM.zUn_nx, PM.zUn_bk, PM.zUn_ct, PM.zUn_sh, PM.zUn_ow, PM.zNo_nx, PM.zNo_rt, PM.zNo_bk, 
    PM.zNo_ct, PM.zMk_n, PM.zMk_x, PM.zNx_ok, PM.kFs_e, PM.kFo_s, PM.kWs_t, PM.kWs_f, PM.kCe2_e, PM.kCe1_e, PM.kCe_t, PM.kCe_f, PM.kCs_s, PM.kSl_e, PM.r_seal', PM.kItI2_e, PM.kItI_e, PM.r_itI, PM.kDs4_e, 
    PM.kDs3_e, PM.kDs2_e, PM.kDs0_e, PM.kDs5_s, PM.kDs5_i, PM.r_dstar, PM.kDe4_s, PM.kDe4_i, PM.kDe3_e, PM.kDe2_e, PM.kDe1_e, PM.kDe_t, PM.kDs_s, PM.r_dcomp, PM.kSe2_s, PM.kSe2_i, PM.kSe1_e, PM.kSe_t, 
    PM.kSs_s, PM.r_slen, beq_self_eq_true, if_true, if_false, reduceIte, Int.reduceEq, Int.reduceLT, Int.reduceLE, Int.reduceAdd, Int.reduceSub, Int.reduceNeg, Bool.not_true, Bool.not_false, 
    Option.map_some, Option.map_none, Option.bind_some, Option.bind_none, List.getElem?_cons_zero, List.getElem?_cons_succ, List.set_cons_zero, List.set_cons_succ, Bool.and_true, Bool.and_false, 
    Bool.true_and, Bool.false_and, Bool.or_true, Bool.or_false, Bool.true_or, Bool.false_or, decide_true, decide_false, Bool.false_eq_true, List.isEmpty_cons, List.isEmpty_nil, $ts,*] $[$l:location]?)
namespace A73
open PySem PySem.Spec L2 PM Lb
open D4 (F__law_is_value m__law_is_value s_frac)
section
variable {s : List Cell} {st : State} {d : D} {ds : List D} {env : List PM.Slot} {K : Out RV → Prop} {own : List Nat} {g : D → State → Option State} {t : M Bool} {e : M RV}
theorem at_coD (k : D → D) (hw : wipeE (wipeE env own) own = wipeE env own) (hl : ds.length ≤ lim)
    (hs : ∀ x ∈ ds, ∀ Z : Out (Option D) → Prop, (∀ env3, wipeE env3 own = wipeE env own → Z (.ok (some (k x)) ⟨env3, s⟩)) → At (kCs t e (g x ⟨wipeE env own, s⟩)) Z)
    (hk : At (.ok (.ow (.ls (ds.map k))) ⟨wipeE env own, s⟩) K) : At (kCo own g t e ds ⟨env, s⟩) K := by
  have := at_coM (K := K) (store := s) (env := env) (own := own) (g := g) (t := t) (e := e) (fun x : D => x) k hw hl hs hk
  rwa [List.map_id'] at this
theorem at_coDF (f : D → Bool) (hw : wipeE (wipeE env own) own = wipeE env own) (hl : ds.length ≤ lim)
    (hs : ∀ x ∈ ds, ∀ Z : Out (Option D) → Prop, (∀ env3, wipeE env3 own = wipeE env own → Z (.ok (if f x then some x else none) ⟨env3, s⟩)) → At (kCs t e (g x ⟨wipeE env own, s⟩)) Z)
    (hk : At (.ok (.ow (.ls (ds.filter f))) ⟨wipeE env own, s⟩) K) : At (kCo own g t e ds ⟨env, s⟩) K := by
  have := at_coF (K := K) (store := s) (env := env) (own := own) (g := g) (t := t) (e := e) (fun x : D => x) (fun x : D => x) f hw hl hs (by rwa [List.map_id'])
  rwa [List.map_id'] at this
def isNon : D → Bool
  | .non => true
  | _ => false
theorem is_non (h : dat d = true) : opIs2 d .non = some (isNon d) := by
  cases d <;> first | rfl | (simp [dat] at h; done)
def okE (d : D) : Bool := isNon d || isFr d
def isPr : D → Bool
  | .tup ds => decide (ds.length = 2) && ds.all okE
  | _ => false
theorem s_ispr (h : dat d = true) (hw : wt d ≤ lim) : F_is_pair [d] s = .ret (.sh (.bl (isPr d))) s := by
  have e := s_isTn (s := s) h 2
  have hv := fun st => view_dat (st := st) h
  refine at_eq fun Z hZ => ?_
  by_cases ht : isTn 2 d = true
  · obtain ⟨ds, rfl, hds⟩ : ∃ ds, d = .tup ds ∧ ds.length = 2 := by
      cases d <;> simp [isTn] at ht
      exact ⟨_, rfl, by omega⟩
    rw [ht] at e
    rw [dat_tup] at h
    have it : asIt (.tup ds) = some ds := rfl
    simp_arith [F_is_pair, m_is_pair, e, it]
    refine at_coD (fun x => .bl (okE x)) rfl (by unfold lim; omega) (fun x hx Z hz => ?_) ?_
    · have dx := dats_mem h hx
      have vx := fun st => view_dat (st := st) dx
      have i := is_non dx
      have f := s_isFr (s := s) dx
      unfold okE at hz
      cases b1 : isNon x with
      | true =>
        rw [b1] at i hz
        simp_arith [vx, i] at hz ⊢
        exact hz _ rfl
      | false =>
        rw [b1] at i hz
        simp_arith [vx, i, f] at hz ⊢
        exact hz _ rfl
    · have al := opAll_m okE ds
      have hp : isPr (.tup ds) = ds.all okE := by
        show (decide (ds.length = 2) && ds.all okE) = _
        rw [hds]
        rfl
      rw [hp] at hZ
      simp_arith [al]
      exact hZ
  · have hp : isPr d = false := by
      cases d <;> first | rfl | skip
      rename_i ds
      show (decide (ds.length = 2) && ds.all okE) = false
      rw [decide_eq_false fun e => ht (by simp [isTn, e])]
      rfl
    rw [Bool.not_eq_true] at ht
    rw [ht] at e
    rw [hp] at hZ
    simp_arith [F_is_pair, m_is_pair, e, hv]
    exact hZ
def sq : D → Option (List D)
  | .lst ds => some ds
  | .tup ds => some ds
  | _ => none
def arePs (d : D) : Bool := match sq d with
  | some ds => decide (1 ≤ ds.length ∧ ds.length ≤ 3) && ds.all isPr
  | none => false
theorem s_islist (h : dat d = true) : F_is_list [d] s = .ret (.sh (.bl (isL d || isT d))) s := by
  have e := e_isLT h
  have hv := fun st => view_dat (st := st) h
  refine at_eq fun Z hZ => ?_
  simp_arith [F_is_list, m_is_list, hv, e]
  exact hZ
theorem s_areps (h : dat d = true) (hw : wt d ≤ lim) : F_are_pairs [d] s = .ret (.sh (.bl (arePs d))) s := by
  have e := s_islist (s := s) h
  have hv := fun st => view_dat (st := st) h
  refine at_eq fun Z hZ => ?_
  cases hs : sq d with
  | none =>
    have hp : arePs d = false := by unfold arePs; rw [hs]
    have ht : (isL d || isT d) = false := by cases d <;> first | rfl | (cases hs)
    rw [ht] at e
    rw [hp] at hZ
    simp_arith [F_are_pairs, m_are_pairs, e, hv]
    exact hZ
  | some ds =>
    have ht : (isL d || isT d) = true := by cases d <;> first | rfl | (cases hs)
    rw [ht] at e
    have ed : dats ds = true := by
      cases d <;> first | (cases hs; done) | skip
      · cases hs; rwa [dat_tup] at h
      · cases hs; rwa [dat_lst] at h
    have ew : wts ds + 3 = wt d := by
      cases d <;> first | (cases hs; done) | skip
      · cases hs; simp
      · cases hs; simp
    have ln : opLen d = some (.sh (.int (ds.length : Nat))) := by
      cases d <;> first | (cases hs; done) | skip
      · cases hs; rfl
      · cases hs; rfl
    have it : asIt d = some ds := by
      cases d <;> first | (cases hs; done) | skip
      · cases hs; rfl
      · cases hs; rfl
    have wl := wts_len (ds := ds)
    have hp : arePs d = (decide (1 ≤ ds.length ∧ ds.length ≤ 3) && ds.all isPr) := by unfold arePs; rw [hs]
    rw [hp] at hZ
    have d1 : decide ((1 : Int) ≤ (ds.length : Int)) = decide (1 ≤ ds.length) := decide_eq_decide.mpr (by omega)
    have d3 : decide ((ds.length : Int) ≤ 3) = decide (ds.length ≤ 3) := decide_eq_decide.mpr (by omega)
    cases b1 : decide (1 ≤ ds.length) with
    | false =>
      rw [decide_eq_false fun z => by have := of_decide_eq_false b1; omega, Bool.false_and] at hZ
      simp_arith [F_are_pairs, m_are_pairs, e, hv, ln, d1, b1]
      exact hZ
    | true =>
      cases b3 : decide (ds.length ≤ 3) with
      | false =>
        rw [decide_eq_false fun z => by have := of_decide_eq_false b3; omega, Bool.false_and] at hZ
        simp_arith [F_are_pairs, m_are_pairs, e, hv, ln, d1, d3, b1, b3]
        exact hZ
      | true =>
        have l3 := of_decide_eq_true b3
        rw [decide_eq_true ⟨of_decide_eq_true b1, l3⟩, Bool.true_and] at hZ
        have al := opAll_m isPr ds
        simp_arith [F_are_pairs, m_are_pairs, e, hv, ln, d1, d3, b1, b3, r_compO]
        have sr : srcOf (.sh d) = some (.fix ds) := by
          cases d <;> first | (cases hs; done) | (cases hs; rfl)
        refine at_coO (xs := ds) (fun x : D => x) (fun x => .bl (isPr x)) sr (fun env => by rw [List.map_id']; rfl) rfl (by omega) (fun x hx Z hz => ?_) ?_
        · have dx := dats_mem ed hx
          have wx := wts_mem hx
          have vx := fun st => view_dat (st := st) dx
          simp_arith [s_ispr (s := s) dx (by omega), vx]
          exact hz _ rfl
        · simp_arith [al]
          exact hZ
theorem s_value (hd : dat d = true) : F__law_is_value [d] s = .ret (.sh (.bl (isFr d))) s := by
  have e := e_isT hd
  have hv := fun st => view_dat (st := st) hd
  refine at_eq fun Z hZ => ?_
  by_cases ht : isT d = true
  · obtain ⟨ds, rfl⟩ : ∃ ds, d = .tup ds := by cases d <;> simp [isT] at ht; exact ⟨_, rfl⟩
    rw [ht] at e
    rw [dat_tup] at hd
    by_cases h2 : ds.length = 2
    · match ds, h2 with
      | [x, y], _ =>
        have hx : dat x = true := dats_mem hd (by simp)
        have hy : dat y = true := dats_mem hd (by simp)
        let f : D → Option D := fun z => if (!(isI z || isB z) || isB z) then some z else none
        have ce : (fun z => f z) = f := rfl
        have c : ∀ Z, At (.ok (.ow (.ls ([x, y].filterMap f))) ⟨[.sh (.tup [x, y]), .un], s⟩) Z → At (kCo [1] (gN 1) (mOr (mNot (mB (mOp opIsi (mV 1) (mL (.val (.ty "int")))))) (mB (mOp opIsi (mV 1) (mL (.val (.ty "bool")))))) (mV 1) [x, y] ⟨[.sh (.tup [x, y]), .un], s⟩) Z := fun Z h => by
          refine at_coP [.sh (.tup [x, y]), .un] f (by simp) (by simp) (by simp [lim]) (fun z hz Z2 h2 => ?_) h
          have dz : dat z = true := dats_mem hd hz
          have e1 := e_isIn dz
          have e2 := e_isB dz
          have vz := fun st => view_dat (st := st) dz
          have k := h2 [.sh (.tup [x, y]), .sh z] (by simp)
          revert k
          simp only [f]
          cases hi : isI z <;> cases hb : isB z <;> rw [hi, hb] at e1 <;> rw [hb] at e2 <;> intro k <;> simp [hi, hb] at k <;> simp [mV, vz, e1, e2] <;> exact k
        by_cases hg : isI x = true ∧ isI y = true
        · obtain ⟨i, rfl⟩ : ∃ i, x = .int i := by cases x <;> first | exact ⟨_, rfl⟩ | simp [isI] at hg
          obtain ⟨j, rfl⟩ : ∃ j, y = .int j := by cases y <;> first | exact ⟨_, rfl⟩ | simp [isI] at hg
          have fe : [D.int i, D.int j].filterMap f = [] := by simp [f, isI, isB]
          rw [fe] at c
          have ne := opNe_l0 []
          simp [F__law_is_value, runF, m__law_is_value, entry, mV, e]
          refine c _ ?_
          simp [mV, ne]
          by_cases hj : 0 < j
          · have jb : j.natAbs < 2 ^ 8000 := by
              simp only [dat_int, decide_eq_true_eq] at hy
              exact Nat.lt_of_lt_of_le (lg_of hy) (Nat.pow_le_pow_right (by decide) (by decide))
            have fq := s_frac i j s hj jb
            have q1 : opEq (fr (Rat.divInt i j)) (.tup [.int i, .int j]) = some (isFr (.tup [.int i, .int j])) := by
              have q2 : opEq (fr (Rat.divInt i j)) (.tup [.int i, .int j]) = some (decide ((Rat.divInt i j).num = i ∧ ((Rat.divInt i j).den : Int) = j)) := by
                rw [fr, opEq_t]
                simp [opEq0, D.py, D.pys, SeqAt.shaped, PyData.canLay0, PyData.canLayAll0, PyData.depth, PyData.depthAll, PyData.eqv, PyData.eqvAll]
                rw [Bool.eq_iff_iff]
                simp
              rw [q2]
              congr 1
              have e1 : j.sign = 1 := Int.sign_eq_one_of_pos hj
              have e2 : (j.natAbs : Int) = j := by omega
              have fe := fr_divInt i j (by omega)
              simp only [fr, D.tup.injEq, List.cons.injEq, D.int.injEq, and_true] at fe
              rw [fe.1, fe.2, e1, e2, Int.one_mul]
              simp only [isFr, hj, decide_true, Bool.true_and]
              refine decide_eq_decide.mpr ⟨fun z => ?_, fun z => by rw [z]; simp⟩
              have g0 : (0 : Int) < (Int.gcd i j : Nat) := by exact_mod_cast Int.gcd_pos_of_ne_zero_right _ (by omega)
              have g1 : ((Int.gcd i j : Nat) : Int) * (j / (Int.gcd i j : Nat)) = j := Int.mul_ediv_cancel' (Int.gcd_dvd_right ..)
              rw [z.2] at g1
              have : ((Int.gcd i j : Nat) : Int) = 1 := by
                have h3 : ((Int.gcd i j : Nat) : Int) * j = 1 * j := by rw [g1, Int.one_mul]
                exact Int.eq_of_mul_eq_mul_right (by omega) h3
              exact_mod_cast this
            simp [mV, hj, fq, q1]
            exact hZ
          · have z : isFr (.tup [.int i, .int j]) = false := by simp [isFr, hj]
            rw [z] at hZ
            simp [mV, hj]
            exact hZ
        · have z : isFr (.tup [x, y]) = false := by
            cases x <;> first | rfl | (cases y <;> first | rfl | exact absurd ⟨rfl, rfl⟩ hg)
          rw [z] at hZ
          have fe : ([x, y].filterMap f).isEmpty = false := by
            have ni : ∀ w : D, isI w = false → f w = some w := fun w hw => by simp only [f, hw]; cases isB w <;> rfl
            by_cases h1 : isI x = true
            · have h2 : isI y = false := by rw [← Bool.not_eq_true]; exact fun h2 => hg ⟨h1, h2⟩
              rw [List.filterMap_cons, List.filterMap_cons, ni y h2]
              cases f x <;> rfl
            · rw [List.filterMap_cons, ni x (by rw [← Bool.not_eq_true]; exact h1)]
              rfl
          have ne := opNe_l0 ([x, y].filterMap f)
          rw [fe] at ne
          generalize [x, y].filterMap f = W at *
          simp [F__law_is_value, runF, m__law_is_value, entry, mV, e]
          refine c _ ?_
          simp [mV, ne]
          exact hZ
    · have z : isFr (.tup ds) = false := by
        match ds with
        | [] => rfl
        | [a] => cases a <;> rfl
        | [a, b] => simp at h2
        | a :: b :: c :: r => cases a <;> first | rfl | (cases b <;> rfl)
      have h2' : ¬ ((ds.length : Int) = 2) := by omega
      rw [z] at hZ
      simp [F__law_is_value, runF, m__law_is_value, entry, mV, e, h2']
      exact hZ
  · have z : isFr d = false := by cases d <;> first | rfl | (simp [isT] at ht)
    rw [Bool.not_eq_true] at ht
    rw [ht] at e
    rw [z] at hZ
    simp [F__law_is_value, runF, m__law_is_value, entry, mV, e, hv]
    exact hZ
end
end A73
set_option Elab.async false
set_option linter.all false
set_option maxRecDepth 100000
set_option maxHeartbeats 4000000
set_option exponentiation.threshold 20000
namespace A73
open PySem PySem.Spec L2 PM Lb
open D4 (F__law_is_value m__law_is_value s_frac)
section
variable {s : List Cell} {st : State} {d : D} {ds : List D} {env : List PM.Slot} {K : Out RV → Prop}
def wiD (ds : List D) : D := .rcd "Wishes" [("kept", .tup ds)]
theorem s_initd (h : dat d = true) (hw : wt d ≤ lim) (hs : sq d = some ds) (ha : arePs d = true) : F_Wishes___init__ [.obj s.length, d] (s ++ [.ins "Wishes" []]) = .ret (.sh .non) (s ++ [.ins "Wishes" [("kept", .tup ds)]]) := by
  have a := s_areps (s := s ++ [.ins "Wishes" []]) h hw
  rw [ha] at a
  have hv := fun st => view_dat (st := st) h
  have tp : opTuple d = some (.sh (.tup ds)) := by cases d <;> first | (cases hs; done) | (cases hs; rfl)
  have u : ∀ env, upC (putFC ["Wishes"] "kept" (.tup ds)) (.sh (.obj s.length)) ⟨env, s ++ [.ins "Wishes" []]⟩ = some (.non, ⟨env, s ++ [.ins "Wishes" [("kept", .tup ds)]]⟩) := fun env => by
    rw [up_in (C := "Wishes") (fs := []) (by simp) (by decide) (by decide)]
    simp [putD]
  simp [F_Wishes___init__, runF, m_Wishes___init__, entry, mV, a, u, hv, tp]
theorem s_initx (h : dat d = true) (hw : wt d ≤ lim) (ha : arePs d = false) : F_Wishes___init__ [.obj s.length, d] (s ++ [.ins "Wishes" []]) = .exc ⟨.own "InvalidWishes", some [("value", d)]⟩ (s ++ [.ins "Wishes" []]) := by
  have a := s_areps (s := s ++ [.ins "Wishes" []]) h hw
  rw [ha] at a
  have hv := fun st => view_dat (st := st) h
  refine at_eq fun Z hZ => ?_
  simp_arith [F_Wishes___init__, m_Wishes___init__, a, hv]
  exact hZ
theorem mk_d (h : dat d = true) (hw : wt d ≤ lim) (hs : sq d = some ds) (ha : arePs d = true) {env : List PM.Slot} : (kMk "Wishes" 1 F_Wishes___init__ [d] ⟨env, s⟩).bd kFz = .ok (.sh (wiD ds)) ⟨env, s ++ [.dead]⟩ := mk_fz (s_initd h hw hs ha)
theorem mk_x (h : dat d = true) (hw : wt d ≤ lim) (ha : arePs d = false) {env : List PM.Slot} : kMk "Wishes" 1 F_Wishes___init__ [d] ⟨env, s⟩ = .exc ⟨.own "InvalidWishes", some [("value", d)]⟩ ⟨env, s ++ [.ins "Wishes" []]⟩ := by
  rw [kMk_1, s_initx h hw ha]
  rfl
theorem at_mkd (h : dat d = true) (hw : wt d ≤ lim) (hs : sq d = some ds) (ha : arePs d = true) {env : List PM.Slot} {Z : Out RV → Prop} : At (kMk "Wishes" 1 F_Wishes___init__ [d] ⟨env, s⟩) (zBd kFz Z) = At (.ok (.sh (wiD ds)) ⟨env, s ++ [.dead]⟩) Z := congrArg Z (mk_d h hw hs ha)
theorem s_pairsd : F_Wishes_pairs [wiD ds] s = .ret (.sh (.tup ds)) s := by
  have fl : flO ["Wishes"] "Wishes" "kept" [("kept", .tup ds)] = some (.sh (.tup ds)) := flO_e (by decide) rfl
  refine at_eq fun Z hZ => ?_
  simp_arith [F_Wishes_pairs, m_Wishes_pairs, wiD, fl]
  exact hZ
theorem dat_sq (h : dat d = true) (hs : sq d = some ds) : dat (.tup ds) = true ∧ wt (.tup ds) = wt d ∧ dep (.tup ds) = dep d := by
  cases d <;> first | (cases hs; done) | skip
  · cases hs; exact ⟨h, rfl, rfl⟩
  · cases hs; rw [dat_lst] at h; exact ⟨by rw [dat_tup]; exact h, by simp, by simp⟩
def madeD (d : D) : D := match sq d with
  | some ds => if arePs d then .tup [.str (Str.ofString "made"), .str (shw (.tup ds))] else .tup [.str (Str.ofString "invalid"), .str (shw d), .bl true, .bl false]
  | none => .tup [.str (Str.ofString "invalid"), .str (shw d), .bl true, .bl false]
theorem arePs_sq (h : arePs d = true) : ∃ ds, sq d = some ds := by
  unfold arePs at h
  cases hs : sq d with
  | none => rw [hs] at h; cases h
  | some ds => exact ⟨ds, rfl⟩
theorem s_made (h : dat d = true) (hw : wt d ≤ lim) (hd : dep d ≤ 64) : ∃ s', F__law_made [d] s = .ret (.sh (madeD d)) s' ∧ (s' = s ++ [.dead] ∨ s' = s ++ [.ins "Wishes" []]) := by
  have hv := fun st => view_dat (st := st) h
  have rp := rep_dat h hd hw
  cases ha : arePs d with
  | true =>
    obtain ⟨ds, hs⟩ := arePs_sq ha
    obtain ⟨t1, t2, t3⟩ := dat_sq h hs
    have mk := fun env => mk_d (s := s) (env := env) h hw hs ha
    have rt := rep_dat t1 (by omega) (by omega)
    have pr := fun s => s_pairsd (s := s) (ds := ds)
    have em : madeD d = .tup [.str (Str.ofString "made"), .str (shw (.tup ds))] := by unfold madeD; rw [hs]; simp [ha]
    rw [em]
    have vw : ∀ st, view st (.sh (wiD ds)) = some (wiD ds) := fun _ => rfl
    refine ⟨s ++ [.dead], ?_, .inl rfl⟩
    refine at_eq fun Z hZ => ?_
    have am := fun env Z => at_mkd (s := s) (env := env) (Z := Z) h hw hs ha
    have ff : ∀ st, RV.frz (.sh (wiD ds)) st = .ok (wiD ds) st := fun _ => rfl
    have pg : ∀ st, prG [("Wishes", F_Wishes_pairs)] (.sh (wiD ds)) st = .ok (.sh (.tup ds)) st := fun st => by
      rw [prG_of (x := wiD ds) (C := Str.ofString "Wishes") (fs := [((Str.ofString "kept"), .tup ds)]) (by simp [thing, wiD]) rfl, s_pairsd]
      rfl
    simp_arith [F__law_made, m__law_made, hv, am, ff, pg, rt]
    exact hZ
  | false =>
    have mx := fun env => mk_x (s := s) (env := env) h hw ha
    have em : madeD d = .tup [.str (Str.ofString "invalid"), .str (shw d), .bl true, .bl false] := by unfold madeD; cases sq d <;> simp [ha]
    rw [em]
    refine ⟨s ++ [.ins "Wishes" []], ?_, .inr rfl⟩
    refine at_eq fun Z hZ => ?_
    have rh : ∀ (i : Option Nat) (body : MS) (l : List (Str × Option Nat × MS)) (dd : Option (List (Str × D))) (st : State), PM.runH flyX (((Str.ofString "InvalidWishes"), i, body) :: l) ⟨.own (Str.ofString "InvalidWishes"), dd⟩ st = runS i body ⟨.own (Str.ofString "InvalidWishes"), dd⟩ st := fun _ _ _ _ _ => r_runH (by decide)
    have vx : ∀ st, view st (.sh (.exn (Str.ofString "InvalidWishes") [((Str.ofString "value"), d)])) = some (.exn (Str.ofString "InvalidWishes") [((Str.ofString "value"), d)]) := fun _ => rfl
    have nx : opIs2 (.exn (Str.ofString "InvalidWishes") [((Str.ofString "value"), d)]) .non = some false := rfl
    have lk1 : isiX.lookup ((Str.ofString "InvalidWishes"), Tgt.ty "ValueError") = some true := by decide
    have lk2 : isiX.lookup ((Str.ofString "InvalidWishes"), Tgt.own (Str.ofString "InvalidPlayers")) = some false := by decide
    have fl : flO [(Str.ofString "InvalidPlayers"), (Str.ofString "InvalidWishes")] (Str.ofString "InvalidWishes") (Str.ofString "value") [((Str.ofString "value"), d)] = some (.sh d) := flO_e (by decide) rfl
    have fd : ∀ st, RV.frz (.sh d) st = .ok d st := fun _ => rfl
    simp_arith [F__law_made, m__law_made, hv, mx, rh, vx, nx, lk1, lk2, fl, rp, fd]
    exact hZ
theorem s_duos (h : dat d = true) (hw : wt d ≤ lim) : F__law_are_duos [d] s = .ret (.sh (.bl (arePs d))) s := by
  have e := e_isLT h
  have hv := fun st => view_dat (st := st) h
  refine at_eq fun Z hZ => ?_
  cases hs : sq d with
  | none =>
    have hp : arePs d = false := by unfold arePs; rw [hs]
    have ht : (isL d || isT d) = false := by cases d <;> first | rfl | (cases hs)
    rw [ht] at e
    rw [hp] at hZ
    simp_arith [F__law_are_duos, m__law_are_duos, e, hv]
    exact hZ
  | some ds =>
    have ht : (isL d || isT d) = true := by cases d <;> first | rfl | (cases hs)
    rw [ht] at e
    have ed : dats ds = true := by
      cases d <;> first | (cases hs; done) | skip
      · cases hs; rwa [dat_tup] at h
      · cases hs; rwa [dat_lst] at h
    have ew : wts ds + 3 = wt d := by
      cases d <;> first | (cases hs; done) | skip
      · cases hs; simp
      · cases hs; simp
    have ln : opLen d = some (.sh (.int (ds.length : Nat))) := by
      cases d <;> first | (cases hs; done) | skip
      · cases hs; rfl
      · cases hs; rfl
    have it : asIt d = some ds := by
      cases d <;> first | (cases hs; done) | skip
      · cases hs; rfl
      · cases hs; rfl
    have wl := wts_len (ds := ds)
    have hp : arePs d = (decide (1 ≤ ds.length ∧ ds.length ≤ 3) && ds.all isPr) := by unfold arePs; rw [hs]
    rw [hp] at hZ
    have d1 : decide ((0 : Int) < (ds.length : Int)) = decide (1 ≤ ds.length) := decide_eq_decide.mpr (by omega)
    have d3 : decide ((ds.length : Int) < 4) = decide (ds.length ≤ 3) := decide_eq_decide.mpr (by omega)
    cases b1 : decide (1 ≤ ds.length) with
    | false =>
      rw [decide_eq_false fun z => by have := of_decide_eq_false b1; omega, Bool.false_and] at hZ
      simp_arith [F__law_are_duos, m__law_are_duos, e, hv, ln, d1, b1]
      exact hZ
    | true =>
      cases b3 : decide (ds.length ≤ 3) with
      | false =>
        rw [decide_eq_false fun z => by have := of_decide_eq_false b3; omega, Bool.false_and] at hZ
        simp_arith [F__law_are_duos, m__law_are_duos, e, hv, ln, d1, d3, b1, b3]
        exact hZ
      | true =>
        have l3 := of_decide_eq_true b3
        rw [decide_eq_true ⟨of_decide_eq_true b1, l3⟩, Bool.true_and] at hZ
        simp_arith [F__law_are_duos, m__law_are_duos, e, hv, ln, d1, d3, b1, b3, it]
        clear hp ht ln it e hv hs h b1 b3 d1 d3 l3
        refine at_forB (fun j st => ∃ y1, st = ⟨[.sh d, y1, .un], s⟩ ∧ (ds.take j).all isPr = true) (fun _ => False) (fun r st => r = .sh (.bl false) ∧ (∃ e, st = ⟨e, s⟩) ∧ ds.all isPr = false) ds 0 _ ⟨_, rfl, by simp⟩ ?_ ?_ (fun _ h => h.elim) ?_
        · rintro j _ x hx ⟨y1, rfl, hj⟩ Z h1 _ _ h4
          rw [Nat.zero_add] at hj
          have hm := List.mem_of_getElem? hx
          have dx := dats_mem ed hm
          have wx := wts_mem hm
          have vx := fun st => view_dat (st := st) dx
          have ex := e_isT dx
          have tk : ds.take (j + 1) = ds.take j ++ [x] := by rw [List.take_succ, hx]; rfl
          have bad : isPr x = false → ds.all isPr = false := fun hb => by
            rw [List.all_eq_false]
            exact ⟨x, hm, by rw [hb]; simp⟩
          have good : isPr x = true → (ds.take (0 + j + 1)).all isPr = true := fun hb => by
            rw [Nat.zero_add, tk, List.all_append, hj]
            simp [hb]
          cases ht : isT x with
          | false =>
            rw [ht] at ex
            have hb : isPr x = false := by cases x <;> first | rfl | (simp [isT] at ht)
            simp_arith [vx, ex]
            exact h4 _ _ ⟨rfl, ⟨_, rfl⟩, bad hb⟩
          | true =>
            obtain ⟨es, rfl⟩ : ∃ es, x = .tup es := by cases x <;> simp [isT] at ht; exact ⟨_, rfl⟩
            rw [ht] at ex
            rw [dat_tup] at dx
            have lx : opLen (.tup es) = some (.sh (.int (es.length : Nat))) := rfl
            cases h2 : decide ((es.length : Int) = 2) with
            | false =>
              have hb : isPr (.tup es) = false := by
                show (decide (es.length = 2) && es.all okE) = false
                rw [decide_eq_false fun z => by have := of_decide_eq_false h2; omega]
                rfl
              have ne : opNe (.int (es.length : Int)) (.int 2) = some true := by rw [ne_i, h2]; rfl
              simp_arith [ex, lx, ne]
              exact h4 _ _ ⟨rfl, ⟨_, rfl⟩, bad hb⟩
            | true =>
              have l2 := of_decide_eq_true h2
              have ne : opNe (.int (es.length : Int)) (.int 2) = some false := by rw [ne_i, h2]; rfl
              have itx : asIt (.tup es) = some es := rfl
              simp_arith [ex, lx, ne, itx]
              refine at_coDF (fun z => !okE z) rfl (by unfold lim; omega) (fun z hz Z2 hz2 => ?_) ?_
              · have dz := dats_mem dx hz
                have vz := fun st => view_dat (st := st) dz
                have i := is_non dz
                have v := s_value (s := s) dz
                unfold okE at hz2
                have i2 : opIsNot2 z .non = some (!isNon z) := by unfold opIsNot2; rw [i]; rfl
                have fz : ∀ st, RV.frz (.sh z) st = .ok z st := fun _ => rfl
                cases c1 : isNon z with
                | true =>
                  rw [c1] at i2 hz2
                  simp_arith [vz, i2] at hz2 ⊢
                  exact hz2 _ rfl
                | false =>
                  rw [c1] at i2 hz2
                  cases c2 : isFr z with
                  | true =>
                    rw [c2] at v hz2
                    simp_arith [vz, i2, v] at hz2 ⊢
                    exact hz2 _ rfl
                  | false =>
                    rw [c2] at v hz2
                    simp_arith [vz, i2, v, fz] at hz2 ⊢
                    exact hz2 _ rfl
              · have nn := opNe_l0 (es.filter fun z => !okE z)
                have ep : isPr (.tup es) = (es.filter fun z => !okE z).isEmpty := by
                  show (decide (es.length = 2) && es.all okE) = _
                  rw [decide_eq_true (by omega), Bool.true_and, Bool.eq_iff_iff, List.all_eq_true, List.isEmpty_iff, List.filter_eq_nil_iff]
                  simp
                cases c : (es.filter fun z => !okE z).isEmpty with
                | true =>
                  rw [c] at nn ep
                  simp_arith [nn]
                  exact h1 _ ⟨_, rfl, good ep⟩
                | false =>
                  rw [c] at nn ep
                  simp_arith [nn]
                  exact h4 _ _ ⟨rfl, ⟨_, rfl⟩, bad ep⟩
        · rintro _ ⟨y1, rfl, hj⟩
          rw [Nat.zero_add, List.take_length] at hj
          rw [hj] at hZ
          simp_arith []
          exact hZ
        · rintro r _ ⟨rfl, ⟨e, rfl⟩, hb⟩
          rw [hb] at hZ
          simp_arith []
          exact hZ
theorem eq_made (h : dat d = true) (ha : asc d = true) : opEq (madeD d) (madeD d) = some true := by
  have o1 := ok_strOk (asc_ok h ha)
  have s1 : PyData.strOk (Str.ofString "made") = true := by decide +kernel
  have s2 : PyData.strOk (Str.ofString "invalid") = true := by decide +kernel
  have inv : opEq (.tup [.str (Str.ofString "invalid"), .str (shw d), .bl true, .bl false]) (.tup [.str (Str.ofString "invalid"), .str (shw d), .bl true, .bl false]) = some true := by
    refine opEq_t ?_
    simp [opEq0, D.py, D.pys, SeqAt.shaped, PyData.canLay0, PyData.canLayAll0, PyData.depth, PyData.depthAll, PyData.eqv, PyData.eqvAll, o1, s2]
  unfold madeD
  cases hs : sq d with
  | none => exact inv
  | some ds =>
    cases hp : arePs d with
    | false => simpa [hp] using inv
    | true =>
      have o2 : PyData.strOk (shw (.tup ds)) = true := by
        have h2 := (dat_sq h hs).1
        have a2 : asc (.tup ds) = true := by
          cases d <;> first | (cases hs; done) | skip
          · cases hs; exact ha
          · cases hs; rw [asc_lst] at ha; rw [asc_tup]; exact ha
        exact ok_strOk (asc_ok h2 a2)
      simp only [if_true]
      refine opEq_t ?_
      simp [opEq0, D.py, D.pys, SeqAt.shaped, PyData.canLay0, PyData.canLayAll0, PyData.depth, PyData.depthAll, PyData.eqv, PyData.eqvAll, o2, s1]
end
end A73
set_option Elab.async false
set_option linter.all false
set_option maxRecDepth 100000
set_option maxHeartbeats 4000000
set_option exponentiation.threshold 20000
namespace A73
open PySem PySem.Spec L2 PM Lb
open D4 (F__law_is_value m__law_is_value s_frac)
section
variable {s : List Cell} {st : State} {d : D} {ds : List D} {env : List PM.Slot} {K : Out RV → Prop}
/-- the store grows by what is of no use -/
def Gw (s s' : List Cell) : Prop := ∃ t, s' = s ++ t
theorem tup_of (hs : sq d = some ds) : opTuple d = some (.sh (.tup ds)) := by cases d <;> first | (cases hs; done) | (cases hs; rfl)
theorem s_right (h : dat d = true) (hw : wt d ≤ lim) (hd : dep d ≤ 64) (ha : asc d = true) : ∃ rv s', F__law_is_right [d] s = .ret rv s' ∧ rv = .sh (.bl true) ∧ Gw s s' := by
  have hv := fun st => view_dat (st := st) h
  have rp := rep_dat h hd hw
  obtain ⟨s', e1, e2⟩ := s_made (s := s) h hw hd
  have eq := eq_made h ha
  have du := s_duos (s := s) h hw
  have gw : Gw s s' := by rcases e2 with rfl | rfl <;> exact ⟨_, rfl⟩
  have vm : ∀ st, view st (.sh (madeD d)) = some (madeD d) := fun st => by
    unfold madeD
    cases sq d with
    | none => rfl
    | some ds => cases arePs d <;> rfl
  have es : opEq (.str (shw d)) (.str (shw d)) = some true := eq_strS
  refine at_ret fun Z hZ => ?_
  have hZ := hZ _ _ ⟨rfl, gw⟩
  cases hp : arePs d with
  | true =>
    obtain ⟨ds, hs⟩ := arePs_sq hp
    obtain ⟨t1, t2, t3⟩ := dat_sq h hs
    have tp := tup_of hs
    have rt := rep_dat t1 (by omega) (by omega)
    have em : madeD d = .tup [.str (Str.ofString "made"), .str (shw (.tup ds))] := by unfold madeD; rw [hs]; simp [hp]
    rw [hp] at du
    rw [em] at eq e1
    simp_arith [F__law_is_right, m__law_is_right, du, hv, tp, rt, rp, e1, eq, es]
    exact hZ
  | false =>
    have em : madeD d = .tup [.str (Str.ofString "invalid"), .str (shw d), .bl true, .bl false] := by unfold madeD; cases sq d <;> simp [hp]
    rw [hp] at du
    rw [em] at eq e1
    simp_arith [F__law_is_right, m__law_is_right, du, hv, rp, e1, eq, es]
    exact hZ
/-! ### exactly -/
def areFs (d : D) : Bool := match sq d with
  | some ds => decide (1 ≤ ds.length ∧ ds.length ≤ 3) && ds.all isFr
  | none => false
def dbl (ds : List D) : List D := ds.map fun x => .tup [x, x]
theorem fr_ispr {x : D} (h : isFr x = true) : isPr (.tup [x, x]) = true := by
  have : okE x = true := by unfold okE; rw [h]; simp
  show (decide ([x, x].length = 2) && [x, x].all okE) = true
  simp [this]
theorem dbl_ps (h3 : 1 ≤ ds.length ∧ ds.length ≤ 3) (hf : ds.all isFr = true) : arePs (.lst (dbl ds)) = true := by
  show (decide (1 ≤ (dbl ds).length ∧ (dbl ds).length ≤ 3) && (dbl ds).all isPr) = true
  unfold dbl
  rw [List.length_map, decide_eq_true h3, Bool.true_and, List.all_map, List.all_eq_true]
  exact fun x hx => fr_ispr (List.all_eq_true.mp hf x hx)
theorem dbl_dat (h : dats ds = true) : dat (.lst (dbl ds)) = true ∧ wt (.lst (dbl ds)) ≤ 3 * wts ds + 5 * ds.length + 3 ∧ dep (.lst (dbl ds)) ≤ deps ds + 2 := by
  have A : dats (dbl ds) = true ∧ wts (dbl ds) ≤ 3 * wts ds + 5 * ds.length ∧ deps (dbl ds) ≤ deps ds + 1 := by
    unfold dbl
    induction ds with
    | nil => exact ⟨by simp, by simp, by simp⟩
    | cons x ds ih =>
      simp only [dats_cons, Bool.and_eq_true] at h
      obtain ⟨i1, i2, i3⟩ := ih h.2
      refine ⟨by simp [i1, h.1], ?_, ?_⟩
      · simp only [List.map_cons, wts_cons, List.length_cons, wt_tup, wts_nil]
        omega
      · simp only [List.map_cons, deps_cons, dep_tup, deps_nil]
        omega
  refine ⟨by rw [dat_lst]; exact A.1, by rw [wt_lst]; omega, by rw [dep_lst]; omega⟩
def exD (d : D) : D := match sq d with
  | some ds => if areFs d then .tup [.str (Str.ofString "made"), .str (shw (.tup (dbl ds)))] else .tup [.str (Str.ofString "invalid"), .str (shw d)]
  | none => .tup [.str (Str.ofString "invalid"), .str (shw d)]
theorem areFs_sq (h : areFs d = true) : ∃ ds, sq d = some ds := by
  unfold areFs at h
  cases hs : sq d with
  | none => rw [hs] at h; cases h
  | some ds => exact ⟨ds, rfl⟩
theorem s_exactly (h : dat d = true) (hw : wt d ≤ 200000) : (areFs d = true → ∀ ds, sq d = some ds → F_Wishes_exactly [.cls "Wishes", d] s = .ret (.sh (wiD (dbl ds))) (s ++ [.dead])) ∧ (areFs d = false → F_Wishes_exactly [.cls "Wishes", d] s = .exc ⟨.own "InvalidWishes", some [("value", d)]⟩ s) := by
  have e := s_islist (s := s) h
  have hv := fun st => view_dat (st := st) h
  cases hs : sq d with
  | none =>
    have hp : areFs d = false := by unfold areFs; rw [hs]
    have ht : (isL d || isT d) = false := by cases d <;> first | rfl | (cases hs)
    rw [ht] at e
    refine ⟨(fun z => by rw [hp] at z; cases z), fun _ => ?_⟩
    refine at_eq fun Z hZ => ?_
    simp_arith [F_Wishes_exactly, m_Wishes_exactly, e, hv]
    exact hZ
  | some ds =>
    have ht : (isL d || isT d) = true := by cases d <;> first | rfl | (cases hs)
    rw [ht] at e
    have ed : dats ds = true := by
      cases d <;> first | (cases hs; done) | skip
      · cases hs; rwa [dat_tup] at h
      · cases hs; rwa [dat_lst] at h
    have ew : wts ds + 3 = wt d := by
      cases d <;> first | (cases hs; done) | skip
      · cases hs; simp
      · cases hs; simp
    have ln : opLen d = some (.sh (.int (ds.length : Nat))) := by
      cases d <;> first | (cases hs; done) | skip
      · cases hs; rfl
      · cases hs; rfl
    have it : asIt d = some ds := by
      cases d <;> first | (cases hs; done) | skip
      · cases hs; rfl
      · cases hs; rfl
    have wl := wts_len (ds := ds)
    have hp : areFs d = (decide (1 ≤ ds.length ∧ ds.length ≤ 3) && ds.all isFr) := by unfold areFs; rw [hs]
    have d1 : decide ((1 : Int) ≤ (ds.length : Int)) = decide (1 ≤ ds.length) := decide_eq_decide.mpr (by omega)
    have d3 : decide ((ds.length : Int) ≤ 3) = decide (ds.length ≤ 3) := decide_eq_decide.mpr (by omega)
    cases b1 : decide (1 ≤ ds.length) with
    | false =>
      rw [decide_eq_false fun z => by have := of_decide_eq_false b1; omega, Bool.false_and] at hp
      refine ⟨(fun z => by rw [hp] at z; cases z), fun _ => at_eq fun Z hZ => ?_⟩
      simp_arith [F_Wishes_exactly, m_Wishes_exactly, e, hv, ln, d1, b1]
      exact hZ
    | true =>
      cases b3 : decide (ds.length ≤ 3) with
      | false =>
        rw [decide_eq_false fun z => by have := of_decide_eq_false b3; omega, Bool.false_and] at hp
        refine ⟨(fun z => by rw [hp] at z; cases z), fun _ => at_eq fun Z hZ => ?_⟩
        simp_arith [F_Wishes_exactly, m_Wishes_exactly, e, hv, ln, d1, d3, b1, b3]
        exact hZ
      | true =>
        have l1 := of_decide_eq_true b1
        have l3 := of_decide_eq_true b3
        rw [decide_eq_true ⟨l1, l3⟩, Bool.true_and] at hp
        have al := opAll_m isFr ds
        have go : ∀ Z, At (.ok (.ow (.ls (ds.map fun x => .bl (isFr x)))) ⟨[.sh (.cls "Wishes"), .sh d, .un], s⟩) Z → At (kCo [2] (gN 2) mYes (mCall 1 F_is_fraction (mCons (mV 2) mNil)) ds ⟨[.sh (.cls "Wishes"), .sh d, .un], s⟩) Z := fun Z hZ => by
          refine at_coD (fun x => .bl (isFr x)) rfl (by unfold lim; omega) (fun x hx Z2 hz => ?_) hZ
          have dx := dats_mem ed hx
          have vx := fun st => view_dat (st := st) dx
          simp_arith [s_isFr (s := s) dx, vx]
          exact hz _ rfl
        cases ha : ds.all isFr with
        | false =>
          rw [ha] at al hp
          refine ⟨(fun z => by rw [hp] at z; cases z), fun _ => at_eq fun Z hZ => ?_⟩
          simp_arith [F_Wishes_exactly, m_Wishes_exactly, e, hv, ln, d1, d3, b1, b3, it]
          refine go _ ?_
          simp_arith [al, hv]
          exact hZ
        | true =>
          rw [ha] at al hp
          refine ⟨fun _ ds' e' => ?_, fun z => by rw [hp] at z; cases z⟩
          cases e'
          obtain ⟨q1, q2, q3⟩ := dbl_dat ed
          have am := fun env Z => at_mkd (s := s) (env := env) (Z := Z) q1 (by unfold lim; omega) (show sq (.lst (dbl ds)) = some (dbl ds) from rfl) (dbl_ps ⟨l1, l3⟩ ha)
          have ff : ∀ st, RV.frz (.sh (wiD (dbl ds))) st = .ok (wiD (dbl ds)) st := fun _ => rfl
          refine at_eq fun Z hZ => ?_
          simp_arith [F_Wishes_exactly, m_Wishes_exactly, e, hv, ln, d1, d3, b1, b3, it]
          refine go _ ?_
          simp_arith [al, hv, it]
          refine at_coD (fun x => .tup [x, x]) rfl (by unfold lim; omega) (fun x hx Z2 hz => ?_) ?_
          · have fx : ∀ st, RV.frz (.sh x) st = .ok x st := fun _ => rfl
            simp_arith [fx]
            exact hz _ rfl
          · have ed2 : ds.map (fun x => D.tup [x, x]) = dbl ds := rfl
            simp_arith [ed2, am, ff]
            exact hZ
end
end A73
set_option Elab.async false
set_option linter.all false
set_option maxRecDepth 100000
set_option maxHeartbeats 4000000
set_option exponentiation.threshold 20000
namespace A73
open PySem PySem.Spec L2 PM Lb
open D4 (F__law_is_value m__law_is_value s_frac)
section
variable {s : List Cell} {st : State} {d : D} {ds : List D} {env : List PM.Slot} {K : Out RV → Prop}
theorem pg_wi (ds : List D) (st : State) : prG [("Wishes", F_Wishes_pairs)] (.sh (wiD ds)) st = .ok (.sh (.tup ds)) st := by
  rw [prG_of (x := wiD ds) (C := Str.ofString "Wishes") (fs := [((Str.ofString "kept"), .tup ds)]) (by simp [thing, wiD]) rfl, s_pairsd]
  rfl
theorem dbl_tup (h : dats ds = true) (hw : wts ds + 3 ≤ 200000) (hd : deps ds ≤ 60) (hl : ds.length ≤ 3) : opRepr (.tup (dbl ds)) = some (.sh (.str (shw (.tup (dbl ds))))) := by
  obtain ⟨q1, q2, q3⟩ := dbl_dat h
  refine rep_dat (by rw [dat_tup]; rwa [dat_lst] at q1) (by rw [dep_tup]; rw [dep_lst] at q3; omega) ?_
  rw [wt_tup]
  rw [wt_lst] at q2
  unfold lim
  omega
theorem ex_some (hs : sq d = some ds) (ha : areFs d = true) : exD d = .tup [.str (Str.ofString "made"), .str (shw (.tup (dbl ds)))] ∧ ds.length ≤ 3 ∧ 1 ≤ ds.length ∧ ds.all isFr = true := by
  have h2 := ha
  unfold areFs at h2
  rw [hs] at h2
  simp only [Bool.and_eq_true, decide_eq_true_eq] at h2
  refine ⟨by unfold exD; rw [hs]; simp [ha], h2.1.2, h2.1.1, h2.2⟩
theorem ex_none (ha : areFs d = false) : exD d = .tup [.str (Str.ofString "invalid"), .str (shw d)] := by unfold exD; cases sq d <;> simp [ha]
theorem sq_dat (h : dat d = true) (hs : sq d = some ds) : dats ds = true ∧ wts ds + 3 = wt d ∧ deps ds + 1 = dep d := by
  cases d <;> first | (cases hs; done) | skip
  · cases hs; exact ⟨by rwa [dat_tup] at h, by simp, by simp⟩
  · cases hs; exact ⟨by rwa [dat_lst] at h, by simp, by simp⟩
theorem s_exact (h : dat d = true) (hw : wt d ≤ 200000) (hd : dep d ≤ 60) : ∃ rv s', F__law_exact [d] s = .ret rv s' ∧ rv = .sh (exD d) ∧ Gw s s' := by
  have hv := fun st => view_dat (st := st) h
  have rp := rep_dat h (by omega) (by unfold lim; omega)
  obtain ⟨x1, x2⟩ := s_exactly (s := s) h hw
  refine at_ret fun Z hZ => ?_
  cases ha : areFs d with
  | true =>
    obtain ⟨ds, hs⟩ := areFs_sq ha
    obtain ⟨q1, q2, q3⟩ := sq_dat h hs
    obtain ⟨em, l3, l1, af⟩ := ex_some hs ha
    have x1 := x1 ha ds hs
    have rt := dbl_tup q1 (by omega) (by omega) l3
    have hZ := hZ _ _ ⟨rfl, ⟨[.dead], rfl⟩⟩
    rw [em] at hZ
    have vw : ∀ st, view st (.sh (wiD (dbl ds))) = some (wiD (dbl ds)) := fun _ => rfl
    simp_arith [F__law_exact, m__law_exact, hv, x1, pg_wi, rt]
    exact hZ
  | false =>
    have x2 := x2 ha
    have hZ := hZ _ s ⟨rfl, ⟨[], by simp⟩⟩
    rw [ex_none ha] at hZ
    have rh : ∀ (i : Option Nat) (body : MS) (l : List (Str × Option Nat × MS)) (dd : Option (List (Str × D))) (st : State), PM.runH flyX (((Str.ofString "InvalidWishes"), i, body) :: l) ⟨.own (Str.ofString "InvalidWishes"), dd⟩ st = runS i body ⟨.own (Str.ofString "InvalidWishes"), dd⟩ st := fun _ _ _ _ _ => r_runH (by decide)
    have vx : ∀ st, view st (.sh (.exn (Str.ofString "InvalidWishes") [((Str.ofString "value"), d)])) = some (.exn (Str.ofString "InvalidWishes") [((Str.ofString "value"), d)]) := fun _ => rfl
    have nx : opIs2 (.exn (Str.ofString "InvalidWishes") [((Str.ofString "value"), d)]) .non = some false := rfl
    have fl : flO [(Str.ofString "InvalidPlayers"), (Str.ofString "InvalidWishes")] (Str.ofString "InvalidWishes") (Str.ofString "value") [((Str.ofString "value"), d)] = some (.sh d) := flO_e (by decide) rfl
    simp_arith [F__law_exact, m__law_exact, hv, x2, rh, vx, nx, fl, rp]
    exact hZ
theorem asc_dbl (hs : ascs ds = true) : asc (.tup (dbl ds)) = true := by
  rw [asc_tup]
  refine ascs_of fun x hx => ?_
  obtain ⟨y, hy, rfl⟩ := List.mem_map.mp hx
  have := ascs_mem hs hy
  simp [asc_tup, ascs, this]
theorem eq_ex (h : dat d = true) (ha : asc d = true) : opEq (exD d) (exD d) = some true := by
  have s1 : PyData.strOk (Str.ofString "made") = true := by decide +kernel
  have s2 : PyData.strOk (Str.ofString "invalid") = true := by decide +kernel
  cases hp : areFs d with
  | false =>
    have o1 := ok_strOk (asc_ok h ha)
    rw [ex_none hp]
    refine opEq_t ?_
    simp [opEq0, D.py, D.pys, SeqAt.shaped, PyData.canLay0, PyData.canLayAll0, PyData.depth, PyData.depthAll, PyData.eqv, PyData.eqvAll, o1, s2]
  | true =>
    obtain ⟨ds, hs⟩ := areFs_sq hp
    obtain ⟨q1, q2, q3⟩ := sq_dat h hs
    have a2 : ascs ds = true := by
      cases d <;> first | (cases hs; done) | skip
      · cases hs; rwa [asc_tup] at ha
      · cases hs; rwa [asc_lst] at ha
    have o2 := ok_strOk (asc_ok (d := .tup (dbl ds)) (by have := (dbl_dat q1).1; rw [dat_lst] at this; rwa [dat_tup]) (asc_dbl a2))
    rw [(ex_some hs hp).1]
    refine opEq_t ?_
    simp [opEq0, D.py, D.pys, SeqAt.shaped, PyData.canLay0, PyData.canLayAll0, PyData.depth, PyData.depthAll, PyData.eqv, PyData.eqvAll, o2, s1]
theorem s_isexact (h : dat d = true) (hw : wt d ≤ 200000) (hd : dep d ≤ 60) (ha : asc d = true) : ∃ rv s', F__law_is_exact [d] s = .ret rv s' ∧ rv = .sh (.bl true) ∧ Gw s s' := by
  have hv := fun st => view_dat (st := st) h
  have rp := rep_dat h (by omega) (by unfold lim; omega)
  have e := e_isLT h
  obtain ⟨_, s', e1, rfl, gw⟩ := s_exact (s := s) h hw hd
  have eq := eq_ex h ha
  refine at_ret fun Z hZ => ?_
  have hZ := hZ _ _ ⟨rfl, gw⟩
  have inv : areFs d = false → At (.nx ⟨[.sh d, .sh (.tup [.str (Str.ofString "invalid"), .str (shw d)]), .un], s⟩) (zSq (mRet (mBl (mCmp opEq (mCall 1 F__law_exact (mCons (mV 0) mNil)) (mV 1)))) (zTf Z)) := fun hp => by
    rw [ex_none hp] at eq e1
    simp_arith [e1, eq, hv]
    exact hZ
  cases hs : sq d with
  | none =>
    have hp : areFs d = false := by unfold areFs; rw [hs]
    have ht : (isL d || isT d) = false := by cases d <;> first | rfl | (cases hs)
    rw [ht] at e
    have inv := inv hp
    simp_arith [] at inv
    simp_arith [F__law_is_exact, m__law_is_exact, e, hv, rp]
    exact inv
  | some ds =>
    have ht : (isL d || isT d) = true := by cases d <;> first | rfl | (cases hs)
    rw [ht] at e
    obtain ⟨ed, ew, ep⟩ := sq_dat h hs
    have ln : opLen d = some (.sh (.int (ds.length : Nat))) := by
      cases d <;> first | (cases hs; done) | skip
      · cases hs; rfl
      · cases hs; rfl
    have it : asIt d = some ds := by
      cases d <;> first | (cases hs; done) | skip
      · cases hs; rfl
      · cases hs; rfl
    have wl := wts_len (ds := ds)
    have hp : areFs d = (decide (1 ≤ ds.length ∧ ds.length ≤ 3) && ds.all isFr) := by unfold areFs; rw [hs]
    have d1 : decide ((0 : Int) < (ds.length : Int)) = decide (1 ≤ ds.length) := decide_eq_decide.mpr (by omega)
    have d3 : decide ((ds.length : Int) < 4) = decide (ds.length ≤ 3) := decide_eq_decide.mpr (by omega)
    cases b1 : decide (1 ≤ ds.length) with
    | false =>
      rw [decide_eq_false fun z => by have := of_decide_eq_false b1; omega, Bool.false_and] at hp
      have inv := inv hp
      simp_arith [] at inv
      simp_arith [F__law_is_exact, m__law_is_exact, e, hv, rp, ln, d1, b1]
      exact inv
    | true =>
      cases b3 : decide (ds.length ≤ 3) with
      | false =>
        rw [decide_eq_false fun z => by have := of_decide_eq_false b3; omega, Bool.false_and] at hp
        have inv := inv hp
        simp_arith [] at inv
        simp_arith [F__law_is_exact, m__law_is_exact, e, hv, rp, ln, d1, d3, b1, b3]
        exact inv
      | true =>
        have l1 := of_decide_eq_true b1
        have l3 := of_decide_eq_true b3
        rw [decide_eq_true ⟨l1, l3⟩, Bool.true_and] at hp
        simp_arith [F__law_is_exact, m__law_is_exact, e, hv, rp, ln, d1, d3, b1, b3, it]
        refine at_coDF (fun x => !isFr x) rfl (by unfold lim; omega) (fun x hx Z2 hz => ?_) ?_
        · have dx := dats_mem ed hx
          have vx := fun st => view_dat (st := st) dx
          have v := s_value (s := s) dx
          have fx : ∀ st, RV.frz (.sh x) st = .ok x st := fun _ => rfl
          cases c : isFr x with
          | true =>
            rw [c] at v hz
            simp_arith [vx, v] at hz ⊢
            exact hz _ rfl
          | false =>
            rw [c] at v hz
            simp_arith [vx, v, fx] at hz ⊢
            exact hz _ rfl
        · have ee := opEq_l0 (ds.filter fun x => !isFr x)
          have ep : ds.all isFr = (ds.filter fun x => !isFr x).isEmpty := by
            rw [Bool.eq_iff_iff, List.all_eq_true, List.isEmpty_iff, List.filter_eq_nil_iff]
            simp
          rw [← ep] at ee
          cases c : ds.all isFr with
          | false =>
            rw [c] at ee hp
            have inv := inv hp
            simp_arith [] at inv
            simp_arith [ee]
            exact inv
          | true =>
            rw [c] at ee hp
            have rt := dbl_tup ed (by omega) (by omega) l3
            rw [(ex_some hs hp).1] at eq e1
            simp_arith [ee, it, hv]
            refine at_coD (fun x => .tup [x, x]) rfl (by unfold lim; omega) (fun x hx Z2 hz => ?_) ?_
            · have fx : ∀ st, RV.frz (.sh x) st = .ok x st := fun _ => rfl
              simp_arith [fx]
              exact hz _ rfl
            · have ed2 : ds.map (fun x => D.tup [x, x]) = dbl ds := rfl
              have tp : opTuple (.lst (dbl ds)) = some (.sh (.tup (dbl ds))) := rfl
              simp_arith [ed2, tp, rt, e1, eq, hv]
              exact hZ
end
end A73
set_option Elab.async false
set_option linter.all false
set_option maxRecDepth 100000
set_option maxHeartbeats 4000000
set_option exponentiation.threshold 20000
namespace A73
open PySem PySem.Spec L2 PM Lb
open D4 (F__law_is_value m__law_is_value s_frac)
section
variable {s : List Cell} {st : State} {d : D} {ds : List D} {env : List PM.Slot} {K : Out RV → Prop}
def nns (k : Nat) : List D := List.replicate k (.tup [.non, .non])
def inB (d : D) : Bool := match d with
  | .int i => decide (1 ≤ i ∧ i ≤ 3)
  | _ => false
def noneD (d : D) : D := match d with
  | .int i => if 1 ≤ i ∧ i ≤ 3 then .str (shw (.tup (nns i.toNat))) else .tup [.str (Str.ofString "players"), .str (shw d), .bl true]
  | _ => .tup [.str (Str.ofString "players"), .str (shw d), .bl true]
theorem s_btwd (h : dat d = true) : F_is_between [d, .int 1, .int 3] s = .ret (.sh (.bl (inB d))) s := by
  have i := s_isI (s := s) h
  have hv := fun st => view_dat (st := st) h
  refine at_eq fun Z hZ => ?_
  cases hi : isI d with
  | false =>
    have hb : inB d = false := by cases d <;> first | rfl | (simp [isI] at hi)
    rw [hi] at i
    rw [hb] at hZ
    simp_arith [F_is_between, m_is_between, i, hv]
    exact hZ
  | true =>
    obtain ⟨k, rfl⟩ : ∃ k, d = .int k := by cases d <;> first | (simp [isI] at hi; done) | exact ⟨_, rfl⟩
    rw [hi] at i
    have hb : inB (.int k) = (decide (1 ≤ k) && decide (k ≤ 3)) := by
      show decide (1 ≤ k ∧ k ≤ 3) = _
      rw [Bool.decide_and]
    rw [hb] at hZ
    cases b1 : decide (1 ≤ k) <;> cases b2 : decide (k ≤ 3) <;> (rw [b1, b2] at hZ; simp_arith [F_is_between, m_is_between, i, b1, b2]; exact hZ)
theorem s_none (h : dat d = true) (hw : wt d ≤ lim) (hd : dep d ≤ 64) : ∃ rv s', F__law_none [d] s = .ret rv s' ∧ rv = .sh (noneD d) ∧ Gw s s' := by
  have hv := fun st => view_dat (st := st) h
  have rp := rep_dat h hd hw
  have b := s_btwd (s := s) h
  refine at_ret fun Z hZ => ?_
  cases hb : inB d with
  | true =>
    rw [hb] at b
    obtain ⟨k, rfl, hk⟩ : ∃ k : Nat, d = .int (k : Int) ∧ (k = 1 ∨ k = 2 ∨ k = 3) := by
      cases d <;> first | (simp [inB] at hb; done) | skip
      rename_i i
      have : 1 ≤ i ∧ i ≤ 3 := of_decide_eq_true hb
      exact ⟨i.toNat, by congr 1; omega, by omega⟩
    have nd : noneD (.int (k : Int)) = .str (shw (.tup (nns k))) := by
      show (if 1 ≤ (k : Int) ∧ (k : Int) ≤ 3 then D.str (shw (.tup (nns ((k : Int)).toNat))) else _) = _
      rw [if_pos (by omega)]
      rfl
    rw [nd] at hZ
    have hZ := hZ _ _ ⟨rfl, ⟨[.dead], rfl⟩⟩
    have mu : opMulL (.lst [.tup [.non, .non]]) (.int (k : Int)) = some (.ow (.ls (nns k))) := by rcases hk with rfl | rfl | rfl <;> rfl
    have am := fun env Z => at_mkd (s := s) (env := env) (Z := Z) (d := .lst (nns k)) (ds := nns k) (by rcases hk with rfl | rfl | rfl <;> decide +kernel) (by rcases hk with rfl | rfl | rfl <;> decide +kernel) rfl (by rcases hk with rfl | rfl | rfl <;> decide +kernel)
    have rt : opRepr (.tup (nns k)) = some (.sh (.str (shw (.tup (nns k))))) := by rcases hk with rfl | rfl | rfl <;> exact rep_dat (by decide +kernel) (by decide +kernel) (by decide +kernel)
    have ff : ∀ st, RV.frz (.sh (wiD (nns k))) st = .ok (wiD (nns k)) st := fun _ => rfl
    have k1 : ∀ a st, kLst [a] st = .ok (.ow (.ls [a])) st := fun a st => kLst_e (by simp [lim])
    have nn : F_Wishes_none [.cls "Wishes", .int (k : Int)] s = .ret (.sh (wiD (nns k))) (s ++ [.dead]) := by
      refine at_eq fun Z hZ => ?_
      simp_arith [F_Wishes_none, m_Wishes_none, b, k1, mu, am]
      exact hZ
    simp_arith [F__law_none, m__law_none, nn, pg_wi, rt]
    exact hZ
  | false =>
    rw [hb] at b
    have nd : noneD d = .tup [.str (Str.ofString "players"), .str (shw d), .bl true] := by
      cases d <;> first | rfl | skip
      rename_i i
      show (if 1 ≤ i ∧ i ≤ 3 then _ else _) = _
      rw [if_neg (of_decide_eq_false hb)]
    rw [nd] at hZ
    have hZ := hZ _ s ⟨rfl, ⟨[], by simp⟩⟩
    have nn : F_Wishes_none [.cls "Wishes", d] s = .exc ⟨.own "InvalidPlayers", some [("value", d)]⟩ s := by
      refine at_eq fun Z hZ => ?_
      simp_arith [F_Wishes_none, m_Wishes_none, b, hv]
      exact hZ
    have rh : ∀ (i : Option Nat) (body : MS) (l : List (Str × Option Nat × MS)) (dd : Option (List (Str × D))) (st : State), PM.runH flyX (((Str.ofString "InvalidPlayers"), i, body) :: l) ⟨.own (Str.ofString "InvalidPlayers"), dd⟩ st = runS i body ⟨.own (Str.ofString "InvalidPlayers"), dd⟩ st := fun _ _ _ _ _ => r_runH (by decide)
    have vx : ∀ st, view st (.sh (.exn (Str.ofString "InvalidPlayers") [((Str.ofString "value"), d)])) = some (.exn (Str.ofString "InvalidPlayers") [((Str.ofString "value"), d)]) := fun _ => rfl
    have nx : opIs2 (.exn (Str.ofString "InvalidPlayers") [((Str.ofString "value"), d)]) .non = some false := rfl
    have lk1 : isiX.lookup ((Str.ofString "InvalidPlayers"), Tgt.ty "ValueError") = some true := by decide
    have fl : flO [(Str.ofString "InvalidPlayers"), (Str.ofString "InvalidWishes")] (Str.ofString "InvalidPlayers") (Str.ofString "value") [((Str.ofString "value"), d)] = some (.sh d) := flO_e (by decide) rfl
    simp_arith [F__law_none, m__law_none, nn, hv, rh, vx, nx, lk1, fl, rp]
    exact hZ
end
end A73
set_option Elab.async false
set_option linter.all false
set_option maxRecDepth 100000
set_option maxHeartbeats 4000000
set_option exponentiation.threshold 20000
namespace A73
open PySem PySem.Spec L2 PM Lb
open D4 (F__law_is_value m__law_is_value s_frac)
section
variable {s : List Cell} {st : State} {d : D} {ds : List D} {env : List PM.Slot} {ps qs : List Pr} {neg : Bool} {g : D → D → Option Bool}
theorem isx_w (ps : List Pr) (st : State) : isXG isiX isiT isiD (.sh (wi ps)) (.sh (.cls (Str.ofString "Wishes"))) st = .ok (.sh (.bl true)) st := rfl
theorem isx_d (h : isDat d = true) (hk : (opKind d).isSome = true) (hv : view st (.sh d) = some d) : isXG isiX isiT isiD (.sh d) (.sh (.cls (Str.ofString "Wishes"))) st = .ok (.sh (.bl false)) st := by
  rw [isXG_d h]
  obtain ⟨k, hk⟩ := Option.isSome_iff_exists.mp hk
  have e : opIsi2 isiD d (.cls (Str.ofString "Wishes")) = some (.sh (.bl false)) := by
    have c : isiD.contains (Str.ofString "Wishes") = true := by decide
    simp only [opIsi2, c, if_true, hk, Option.map_some]
  have vc : view st (.sh (.cls (Str.ofString "Wishes"))) = some (.cls (Str.ofString "Wishes")) := rfl
  simp [hv, vc, e]
theorem s_eqw (ps qs : List Pr) : F_Wishes___eq__ [wi ps, wi qs] s = .ret (.sh (.bl (decide (ps = qs)))) s := by
  have vw : ∀ ps st, view st (.sh (wi ps)) = some (wi ps) := fun _ _ => rfl
  have fl : ∀ (ps : List Pr) (st : State), flG ["Wishes"] "kept" (.sh (wi ps)) st = .ok (.sh (.tup (ps.map pr))) st := fun ps st => by
    have := flG_r (Cs := ["Wishes"]) (f := "kept") (C := "Wishes") (fs := [("kept", .tup (ps.map pr))]) (st := st)
    rw [show wi ps = .rcd "Wishes" [("kept", .tup (ps.map pr))] from rfl, this, fl_kept]
    rfl
  refine at_eq fun Z hZ => ?_
  simp_arith [F_Wishes___eq__, m_Wishes___eq__, isx_w, fl, eq_prs]
  exact hZ
theorem s_eqd (ps : List Pr) (h : isDat d = true) (hk : (opKind d).isSome = true) (hv : ∀ st, view st (.sh d) = some d) : F_Wishes___eq__ [wi ps, d] s = .ret (.sh (.bl false)) s := by
  refine at_eq fun Z hZ => ?_
  simp_arith [F_Wishes___eq__, m_Wishes___eq__, isx_d h hk (hv _)]
  exact hZ
theorem ce_w (ps qs : List Pr) (st : State) : ceG neg [("Wishes", F_Wishes___eq__)] g (.sh (wi ps)) (.sh (wi qs)) st = .ok (decide (ps = qs) != neg) st :=
  ceG_r (C := Str.ofString "Wishes") (fs := [((Str.ofString "kept"), .tup (ps.map pr))]) (F := F_Wishes___eq__) rfl (by simp [okRt, thing, wi]) (s_eqw ps qs)
theorem ce_d (ps : List Pr) (st : State) (h : isDat d = true) (hk : (opKind d).isSome = true) (hv : ∀ st, view st (.sh d) = some d) (ht : thing st (.sh d) = none) : ceG neg [("Wishes", F_Wishes___eq__)] g (.sh (wi ps)) (.sh d) st = .ok (false != neg) st :=
  ceG_r (C := Str.ofString "Wishes") (fs := [((Str.ofString "kept"), .tup (ps.map pr))]) (F := F_Wishes___eq__) rfl (by unfold okRt; rw [ht]; exact hk) (s_eqd ps h hk hv)
theorem eq_lprs (hl : ps.length = qs.length) : opEq (.lst (ps.map pr)) (.lst (qs.map pr)) = some (decide (ps = qs)) := by
  have e0 : opEq (.lst (ps.map pr)) (.lst (qs.map pr)) = opEq0 (.lst (ps.map pr)) (.lst (qs.map pr)) := by
    show (if lenDiff (.lst (ps.map pr)) (.lst (qs.map pr)) then some false else opEq0 _ _) = _
    rw [lenDiff_l, List.length_map, List.length_map, hl]
    simp
  have h1 := sh_prs ps
  have h2 := sh_prs qs
  have h1' : SeqAt.shaped (.list (ps.map pp)) = true := by simpa [SeqAt.shaped, PyData.canLay0, PyData.depth] using h1
  have h2' : SeqAt.shaped (.list (qs.map pp)) = true := by simpa [SeqAt.shaped, PyData.canLay0, PyData.depth] using h2
  rw [e0]
  have p1 : ∀ ps : List Pr, (D.lst (ps.map pr)).py = some (.list (ps.map pp)) := fun ps => by
    show (D.pys (ps.map pr)).map PyData.list = _
    rw [pys_pr]
    rfl
  unfold opEq0
  rw [p1, p1, Option.bind_some, Option.bind_some, h1', h2']
  simp [PyData.eqv, eqvs_pr]
end
end A73
set_option Elab.async false
set_option linter.all false
set_option maxRecDepth 100000
set_option maxHeartbeats 4000000
set_option exponentiation.threshold 20000
/-! fractions and pairs of ends as data -/
namespace Lb
open PySem PySem.Spec L2 PM
section
variable {q : Rat} {p : Pr} {ps : List Pr} {qs : List Rat} {o : O} {k : Nat}
theorem log_lt' {i : Int} {k : Nat} (h : i.natAbs < 2 ^ k) (hk : 0 < k) : i.natAbs.log2 < k := by
  by_cases h0 : i.natAbs = 0
  · rw [h0]; simpa using hk
  · exact (Nat.log2_lt h0).mpr h
theorem dat_fr (h : Bk q) : dat (fr q) = true := by
  have h2 : ((q.den : Int)).natAbs < 2 ^ 1900 := by simpa using h.2
  simp only [fr, dat_tup, dats_cons, dat_int, dats_nil, Bool.and_true, Bool.and_eq_true, decide_eq_true_eq]
  exact ⟨log_lt' h.1 (by decide), log_lt' h2 (by decide)⟩
theorem nb_fr (h : Bd 1800 q) : nb (fr q) = true := by
  have h2 : ((q.den : Int)).natAbs < 2 ^ 1800 := by simpa using h.2
  simp only [fr, nb_tup, nbs, nb, Bool.and_true, Bool.and_eq_true, decide_eq_true_eq]
  exact ⟨log_lt' h.1 (by decide), log_lt' h2 (by decide)⟩
theorem wt_fr : wt (fr q) = 3849 := by simp [fr]
theorem dep_fr : dep (fr q) = 1 := by simp [fr]
theorem dat_op (h : Ob o) : dat (op o) = true := by
  cases o with
  | none => simp [op]
  | some q => exact dat_fr (h q rfl)
theorem wt_op : wt (op o) ≤ 3849 := by
  cases o with
  | none => simp [op]
  | some q => rw [op_s, wt_fr]; omega
theorem dep_op : dep (op o) ≤ 1 := by
  cases o with
  | none => simp [op]
  | some q => rw [op_s, dep_fr]; omega
theorem dat_pr (h : Pb p) : dat (pr p) = true := by
  simp [pr, dat_op h.1, dat_op h.2]
theorem wt_pr : wt (pr p) ≤ 7705 := by
  have h1 := wt_op (o := p.1)
  have h2 := wt_op (o := p.2)
  simp [pr]
  omega
theorem dep_pr : dep (pr p) ≤ 2 := by
  have h1 := dep_op (o := p.1)
  have h2 := dep_op (o := p.2)
  simp [pr]
  omega
theorem dats_prs (h : ∀ p ∈ ps, Pb p) : dats (ps.map pr) = true := dats_of fun d hd => by
  obtain ⟨q, hq, rfl⟩ := List.mem_map.mp hd
  exact dat_pr (h q hq)
theorem wts_prs : wts (ps.map pr) ≤ 7707 * ps.length := by
  induction ps with
  | nil => simp
  | cons q qs ih =>
    have := wt_pr (p := q)
    rw [List.map_cons, wts_cons, List.length_cons]
    omega
theorem deps_prs : deps (ps.map pr) ≤ 2 := deps_le fun d hd => by
  obtain ⟨q, hq, rfl⟩ := List.mem_map.mp hd
  exact dep_pr
theorem nb_op (h : ∀ q, o = some q → Bd 1800 q) : nb (op o) = true := by
  cases o with
  | none => simp [op, nb]
  | some q => exact nb_fr (h q rfl)
theorem nb_pr (h : (∀ q, p.1 = some q → Bd 1800 q) ∧ ∀ q, p.2 = some q → Bd 1800 q) : nb (pr p) = true := by
  simp [pr, nb_tup, nbs, nb_op h.1, nb_op h.2]
end
end Lb
set_option Elab.async false
set_option linter.all false
set_option maxRecDepth 100000
set_option maxHeartbeats 4000000
set_option exponentiation.threshold 20000
namespace A73
open PySem PySem.Spec L2 PM Lb
open D4 (F__law_is_value m__law_is_value s_frac)
section
variable {s : List Cell} {st : State} {d : D} {ds : List D} {env : List PM.Slot} {ps qs : List Pr} {neg : Bool}
theorem okE_op (o : O) : okE (op o) = true := by
  cases o with
  | none => rfl
  | some q =>
    show (isNon (fr q) || isFr (fr q)) = true
    rw [isFr_fr]
    simp
theorem isPr_pr (p : Pr) : isPr (pr p) = true := by
  show (decide ([op p.1, op p.2].length = 2) && [op p.1, op p.2].all okE) = true
  simp [okE_op]
theorem ps_ok (h1 : 1 ≤ ps.length) (h3 : ps.length ≤ 3) : arePs (.lst (ps.map pr)) = true ∧ arePs (.tup (ps.map pr)) = true := by
  have e : (decide (1 ≤ (ps.map pr).length ∧ (ps.map pr).length ≤ 3) && (ps.map pr).all isPr) = true := by
    rw [List.length_map, decide_eq_true ⟨h1, h3⟩, Bool.true_and, List.all_map, List.all_eq_true]
    exact fun p _ => isPr_pr p
  exact ⟨e, e⟩
theorem dat_ps (h : ∀ p ∈ ps, Pb p) (h3 : ps.length ≤ 6) : dat (.lst (ps.map pr)) = true ∧ dat (.tup (ps.map pr)) = true ∧ wt (.lst (ps.map pr)) ≤ 50000 ∧ wt (.tup (ps.map pr)) ≤ 50000 ∧ dep (.lst (ps.map pr)) ≤ 3 ∧ dep (.tup (ps.map pr)) ≤ 3 := by
  have a := dats_prs h
  have b := wts_prs (ps := ps)
  have c := deps_prs (ps := ps)
  refine ⟨by rw [dat_lst]; exact a, by rw [dat_tup]; exact a, ?_, ?_, ?_, ?_⟩
  · rw [wt_lst]; omega
  · rw [wt_tup]; omega
  · rw [dep_lst]; omega
  · rw [dep_tup]; omega
theorem s_equal (hp : ∀ p ∈ ps, Pb p) (hq : ∀ p ∈ qs, Pb p) (hl : ps.length = qs.length) (h1 : 1 ≤ ps.length) (h3 : ps.length ≤ 3) : ∃ rv s', F__law_is_equal [.lst (ps.map pr), .lst (qs.map pr)] s = .ret rv s' ∧ rv = .sh (.bl true) ∧ Gw s s' := by
  refine at_ret fun Z hZ => ?_
  have hZ := hZ _ _ ⟨rfl, ⟨[.dead, .dead, .dead], rfl⟩⟩
  obtain ⟨d1, d2, w1, w2, e1, e2⟩ := dat_ps hp (by omega)
  obtain ⟨d3, d4, w3, w4, e3, e4⟩ := dat_ps hq (by omega)
  have m1 := fun s env Z => at_mkd (s := s) (env := env) (Z := Z) d1 (by unfold lim; omega) (show sq (.lst (ps.map pr)) = some (ps.map pr) from rfl) (ps_ok h1 h3).1
  have m2 := fun s env Z => at_mkd (s := s) (env := env) (Z := Z) d3 (by unfold lim; omega) (show sq (.lst (qs.map pr)) = some (qs.map pr) from rfl) (ps_ok (by omega) (by omega)).1
  have m3 := fun s env Z => at_mkd (s := s) (env := env) (Z := Z) d2 (by unfold lim; omega) (show sq (.tup (ps.map pr)) = some (ps.map pr) from rfl) (ps_ok h1 h3).2
  have ww : ∀ ps : List Pr, wiD (ps.map pr) = wi ps := fun _ => rfl
  have ff : ∀ (ps : List Pr) st, RV.frz (.sh (wi ps)) st = .ok (wi ps) st := fun _ _ => rfl
  have l1 : ∀ ps : List Pr, opList (.lst (ps.map pr)) = some (.ow (.ls (ps.map pr))) := fun _ => rfl
  have tp : opTuple (.lst (ps.map pr)) = some (.sh (.tup (ps.map pr))) := rfl
  have k4 : ∀ a b c e st, kLst [a, b, c, e] st = .ok (.ow (.ls [a, b, c, e])) st := fun _ _ _ _ _ => kLst_e (by simp [lim])
  have nl : ∀ (neg : Bool) (g : D → D → Option Bool) (ds : List D) (r : RV) (st : State), ceG neg [("Wishes", F_Wishes___eq__)] g (.sh (.lst ds)) r st = at2 g (.sh (.lst ds)) r st := fun _ _ _ _ _ => ceG_n rfl
  have no : ∀ (neg : Bool) (g : D → D → Option Bool) (ds : List D) (r : RV) (st : State), ceG neg [("Wishes", F_Wishes___eq__)] g (.ow (.ls ds)) r st = at2 g (.ow (.ls ds)) r st := fun _ _ _ _ _ => ceG_n rfl
  have nb : ∀ (neg : Bool) (g : D → D → Option Bool) (c : Bool) (r : RV) (st : State), ceG neg [("Wishes", F_Wishes___eq__)] g (.sh (.bl c)) r st = at2 g (.sh (.bl c)) r st := fun _ _ _ _ _ => ceG_n rfl
  have el := eq_lprs hl
  have cw := fun (neg : Bool) (g : D → D → Option Bool) (ps qs : List Pr) (st : State) => ce_w (neg := neg) (g := g) ps qs st
  have eb : ∀ a b : Bool, opEq (.bl a) (.bl b) = some (decide (a = b)) := fun _ _ => eq_bl
  have nbl : ∀ a b : Bool, opNe (.bl a) (.bl b) = some (!decide (a = b)) := fun _ _ => ne_bl
  have dd : decide (ps = ps) = true := decide_eq_true rfl
  have ee : opEq (.lst []) (.lst []) = some true := by rw [opEq_l0]; rfl
  have cl : ∀ (neg : Bool) (g : D → D → Option Bool) (st : State), ceG neg [("Wishes", F_Wishes___eq__)] g (.sh (wi ps)) (.sh (.lst (ps.map pr))) st = .ok (false != neg) st := fun neg g st => ce_d ps st rfl rfl (fun _ => rfl) rfl
  have ct : ∀ (neg : Bool) (g : D → D → Option Bool) (st : State), ceG neg [("Wishes", F_Wishes___eq__)] g (.sh (wi ps)) (.sh (.tup (ps.map pr))) st = .ok (false != neg) st := fun neg g st => ce_d ps st rfl rfl (fun _ => rfl) rfl
  have cn : ∀ (neg : Bool) (g : D → D → Option Bool) (st : State), ceG neg [("Wishes", F_Wishes___eq__)] g (.sh (wi ps)) (.sh .non) st = .ok (false != neg) st := fun neg g st => ce_d ps st rfl rfl (fun _ => rfl) rfl
  have ci : ∀ (neg : Bool) (g : D → D → Option Bool) (st : State), ceG neg [("Wishes", F_Wishes___eq__)] g (.sh (wi ps)) (.sh (.int 0)) st = .ok (false != neg) st := fun neg g st => ce_d ps st rfl rfl (fun _ => rfl) rfl
  have b1 : (true != false) = true := rfl
  have b2 : (true != true) = false := rfl
  have b3 : (false != false) = false := rfl
  have b4 : (false != true) = true := rfl
  have t1 : decide (true = true) = true := rfl
  have t2 : decide (true = false) = false := rfl
  have t3 : decide (false = true) = false := rfl
  have t4 : decide (false = false) = true := rfl
  have n1 : (!true) = false := rfl
  have n2 : (!false) = true := rfl
  have store : s ++ [Cell.dead] ++ [Cell.dead] ++ [Cell.dead] = s ++ [Cell.dead, Cell.dead, Cell.dead] := by simp
  rw [← store] at hZ
  cases hb : decide (ps = qs) with
  | true =>
    simp_arith [F__law_is_equal, m__law_is_equal, m1, m2, m3, ww, ff, r_cmpE, l1, nl, nb, el, cw, hb, dd, eb, nbl, b1, b2, b3, b4, t1, t2, t3, t4, n1, n2, tp, k4]
    refine at_coDF (fun _ => false) rfl (by unfold lim; simp) (fun x hx Z2 hz => ?_) ?_
    · have hz := fun e h => hz e h
      simp only [List.mem_cons, List.not_mem_nil, or_false] at hx
      rcases hx with rfl | rfl | rfl | rfl <;> (simp_arith [r_cmpE, cl, ct, cn, ci, b3, b4, n1] at hz ⊢; exact hz _ rfl)
    · have fe : ∀ l : List D, l.filter (fun _ => false) = [] := fun l => by simp
      simp_arith [fe, r_cmpE, nl, ee]
      exact hZ
  | false =>
    simp_arith [F__law_is_equal, m__law_is_equal, m1, m2, m3, ww, ff, r_cmpE, l1, nl, nb, el, cw, hb, dd, eb, nbl, b1, b2, b3, b4, t1, t2, t3, t4, n1, n2, tp, k4]
    refine at_coDF (fun _ => false) rfl (by unfold lim; simp) (fun x hx Z2 hz => ?_) ?_
    · have hz := fun e h => hz e h
      simp only [List.mem_cons, List.not_mem_nil, or_false] at hx
      rcases hx with rfl | rfl | rfl | rfl <;> (simp_arith [r_cmpE, cl, ct, cn, ci, b3, b4, n1] at hz ⊢; exact hz _ rfl)
    · have fe : ∀ l : List D, l.filter (fun _ => false) = [] := fun l => by simp
      simp_arith [fe, r_cmpE, nl, ee]
      exact hZ
end
end A73
set_option Elab.async false
set_option linter.all false
set_option maxRecDepth 100000
set_option maxHeartbeats 4000000
set_option exponentiation.threshold 20000
namespace A73
open PySem PySem.Spec L2 PM Lb
section
variable {s : List Cell} {st : State} {d : D} {ds : List D} {env : List PM.Slot} {ps qs : List Pr} {n0 : Nat}
theorem view_o {s : List Cell} {n0 : Nat} {ds : List D} (h : s[n0]? = some (.ls ds)) (env : List PM.Slot) : view ⟨env, s⟩ (.sh (.obj n0)) = some (.lst ds) := by
  simp [view, h, Cell.frz]
theorem s_areo (hp : ∀ p ∈ ps, Pb p) (h1 : 1 ≤ ps.length) (h3 : ps.length ≤ 3) (ho : s[n0]? = some (.ls (ps.map pr))) : F_are_pairs [.obj n0] s = .ret (.sh (.bl true)) s := by
  have vo := view_o ho
  obtain ⟨d1, d2, w1, w2, e1, e2⟩ := dat_ps hp (by omega)
  have e : opIsi (.lst (ps.map pr)) (.tup [.val (.ty "list"), .val (.ty "tuple")]) = some (.sh (.bl true)) := e_isLT d1
  have il : F_is_list [.obj n0] s = .ret (.sh (.bl true)) s := by
    refine at_eq fun Z hZ => ?_
    simp_arith [F_is_list, m_is_list, vo, e]
    exact hZ
  have ln : opLen (.lst (ps.map pr)) = some (.sh (.int (ps.length : Nat))) := by
    show some (RV.sh (.int ((ps.map pr).length : Nat))) = _
    rw [List.length_map]
  have it : asIt (.lst (ps.map pr)) = some (ps.map pr) := rfl
  have k1 : decide ((1 : Int) ≤ (ps.length : Int)) = true := decide_eq_true (by omega)
  have k3 : decide ((ps.length : Int) ≤ 3) = true := decide_eq_true (by omega)
  have al := all_true ps
  refine at_eq fun Z hZ => ?_
  simp_arith [F_are_pairs, m_are_pairs, il, vo, ln, k1, k3, r_compO]
  refine at_coO (α := Pr) (φ := pr) (k := fun _ => .bl true) (xs := ps) (r := .sh (.obj n0)) (src := .cell n0) rfl (fun env => by simp only [Src.at, ho]) rfl (by omega) (fun p hp' Z2 hz => ?_) ?_
  · have vp : ∀ st, view st (.sh (pr p)) = some (pr p) := fun _ => rfl
    simp_arith [s_ispair (p := p) (s := s), vp]
    exact hz _ rfl
  · rw [show ((ps.map pr).map fun _ => D.bl true) = ps.map fun _ => D.bl true by rw [List.map_map]; rfl] at al
    simp_arith [al]
    exact hZ
theorem at_mko (hp : ∀ p ∈ ps, Pb p) (h1 : 1 ≤ ps.length) (h3 : ps.length ≤ 3) (ho : s[n0]? = some (.ls (ps.map pr))) {env : List PM.Slot} {Z : Out RV → Prop} : At (kMk "Wishes" 1 F_Wishes___init__ [.obj n0] ⟨env, s⟩) (zBd kFz Z) = At (.ok (.sh (wi ps)) ⟨env, s ++ [.dead]⟩) Z := by
  have hl : n0 < s.length := (List.getElem?_eq_some_iff.mp ho).1
  have ho2 : ∀ c, (s ++ [c])[n0]? = some (.ls (ps.map pr)) := fun c => by rw [List.getElem?_append_left hl]; exact ho
  have a := s_areo (s := s ++ [.ins "Wishes" []]) hp h1 h3 (ho2 _)
  have vo := view_o (ho2 (.ins "Wishes" []))
  have tp : opTuple (.lst (ps.map pr)) = some (.sh (.tup (ps.map pr))) := rfl
  have u : ∀ env, upC (putFC ["Wishes"] "kept" (.tup (ps.map pr))) (.sh (.obj s.length)) ⟨env, s ++ [.ins "Wishes" []]⟩ = some (.non, ⟨env, s ++ [.ins "Wishes" [("kept", .tup (ps.map pr))]]⟩) := fun env => by
    rw [up_in (C := "Wishes") (fs := []) (by simp) (by decide) (by decide)]
    simp [putD]
  have i : F_Wishes___init__ [.obj s.length, .obj n0] (s ++ [.ins "Wishes" []]) = .ret (.sh .non) (s ++ [.ins "Wishes" [("kept", .tup (ps.map pr))]]) := by
    simp [F_Wishes___init__, runF, m_Wishes___init__, entry, mV, a, vo, tp, u]
  exact congrArg Z (mk_fz (st := ⟨env, s⟩) i)
theorem s_copied (hp : ∀ p ∈ ps, Pb p) (h1 : 1 ≤ ps.length) (h3 : ps.length ≤ 3) : ∃ rv s', F__law_copied [.lst (ps.map pr)] s = .ret rv s' ∧ rv = .sh (.bl true) ∧ Gw s s' := by
  refine at_ret fun Z hZ => ?_
  obtain ⟨d1, d2, w1, w2, e1, e2⟩ := dat_ps hp (by omega)
  have l1 : opList (.lst (ps.map pr)) = some (.ow (.ls (ps.map pr))) := rfl
  have h0 : (s ++ [Cell.ls (ps.map pr)])[s.length]? = some (.ls (ps.map pr)) := by simp
  have mo := fun env Z => at_mko (s := s ++ [Cell.ls (ps.map pr)]) (n0 := s.length) (env := env) (Z := Z) hp h1 h3 h0
  have m1 := fun s env Z => at_mkd (s := s) (env := env) (Z := Z) d1 (by unfold lim; omega) (show sq (.lst (ps.map pr)) = some (ps.map pr) from rfl) (ps_ok h1 h3).1
  have ww : ∀ ps : List Pr, wiD (ps.map pr) = wi ps := fun _ => rfl
  have ff : ∀ (ps : List Pr) st, RV.frz (.sh (wi ps)) st = .ok (wi ps) st := fun _ _ => rfl
  have tp : opTuple (.lst (ps.map pr)) = some (.sh (.tup (ps.map pr))) := rfl
  have rt := rep_dat d2 (by omega) (by unfold lim; omega)
  have pg : ∀ st, prG [("Wishes", F_Wishes_pairs)] (.sh (wi ps)) st = .ok (.sh (.tup (ps.map pr))) st := fun st => pg_wi (ps.map pr) st
  have cs : ∀ (neg : Bool) (g : D → D → Option Bool) (x : Str) (r : RV) (st : State), ceG neg [("Wishes", F_Wishes___eq__)] g (.sh (.str x)) r st = at2 g (.sh (.str x)) r st := fun _ _ _ _ _ => ceG_n rfl
  have es : ∀ x : Str, opEq (.str x) (.str x) = some true := fun _ => eq_strS
  have cw := fun (neg : Bool) (g : D → D → Option Bool) (ps qs : List Pr) (st : State) => ce_w (neg := neg) (g := g) ps qs st
  have dd : decide (ps = ps) = true := decide_eq_true rfl
  have b1 : (true != false) = true := rfl
  have g1 : (s ++ [Cell.ls (ps.map pr)] ++ [Cell.dead])[s.length]? = some (.ls (ps.map pr)) := by simp
  have v1 := view_o g1
  have lp : (ps.map pr).length < lim := by rw [List.length_map]; unfold lim; omega
  obtain ⟨X, hX⟩ : ∃ X, X = ps.map pr ++ [D.tup [.non, .non]] := ⟨_, rfl⟩
  have fa : fApp (ps.map pr) [.tup [.non, .non]] = some (.non, X) := by rw [hX]; exact fApp_e lp
  have s1 : (s ++ [Cell.ls (ps.map pr)] ++ [Cell.dead]).set s.length (.ls X) = s ++ [.ls X, .dead] := by simp
  have g2 : (s ++ [Cell.ls X, Cell.dead])[s.length]? = some (.ls X) := by simp
  have pl : putLC (.int 0) .non (.ls X) = some (.non, .ls (X.set 0 .non)) := by
    have : 0 < X.length := by rw [hX]; simp
    show (ixN X.length 0).map _ = _
    have e : ixN X.length 0 = some 0 := by
      unfold ixN
      rw [if_pos (by omega), if_pos (by omega)]
      rfl
    rw [e]
    rfl
  have s2 : (s ++ [Cell.ls X, Cell.dead]).set s.length (.ls (X.set 0 .non)) = s ++ [.ls (X.set 0 .non), .dead] := by simp
  have hZ := hZ _ _ ⟨rfl, ⟨[.ls (X.set 0 .non), .dead, .dead], rfl⟩⟩
  have s3 : s ++ [Cell.ls (X.set 0 .non), Cell.dead] ++ [Cell.dead] = s ++ [.ls (X.set 0 .non), .dead, .dead] := by simp
  rw [← s3] at hZ
  have il : isLs (.lst (ps.map pr)) = some () := rfl
  simp_arith [F__law_copied, m__law_copied, l1, mo, ff, v1, il, g1, fa, s1, r_putL, kV0_e, kV1_e, kV2_e, kV3_e, kV4_e, g2, pl, s2, r_cmpE, pg, tp, rt, cs, es, m1, ww, cw, dd, b1]
  exact hZ
end
end A73
set_option Elab.async false
set_option linter.all false
set_option maxRecDepth 100000
set_option maxHeartbeats 4000000
set_option exponentiation.threshold 20000
namespace A73
open PySem PySem.Spec L2 PM Lb
open D4 (F__law_draw F__law_value F__law_pick F__law_odd F__law_bent p_draw p_pick p_value p_odd p_bent Vo odd_dat Bt nat_lt oddA oddB oddC opAdd_l)
open D1 (Pn pen s_pen F__law_pen m__law_pen Pn.le)
section
variable {s : List Cell} {cs : List Int} {N : Int} {ps qs : List Pr} {xs : List D} {x : D}
theorem pn_gw {s' : List Cell} (h : Pn 0 cs N s) (g : Gw s s') : Pn 0 cs N s' := by
  obtain ⟨t, rfl⟩ := g
  exact h.app
theorem cut_m1 {α : Type} (l : List α) : cut l none (some (-1)) = l.dropLast := by
  unfold cut
  rw [HT.sIx_none, List.drop_zero, Nat.sub_zero, List.dropLast_eq_take]
  congr 1
  unfold HT.sIx
  simp
  omega
theorem atI_last {ds : List D} {d : D} : atI (ds ++ [d]) (-1) = some d := by
  have e : ixN (ds ++ [d]).length (-1) = some ds.length := by
    unfold ixN
    simp
    omega
  unfold atI
  rw [e]
  simp
theorem ofF_is {r : RV} {d : D} {st : State} (h : Is r d) : ofF st (.ret r s) = .ok r { st with store := s } := by
  rcases h with rfl | ⟨ds, rfl, rfl⟩ <;> rfl
/-- what is asked of an item -/
def Gd (x : D) : Prop := dat x = true ∧ wt x ≤ 190000 ∧ dep x ≤ 50 ∧ asc x = true
theorem gd_odd {d : D} (h : d ∈ oddA ++ oddB ++ oddC) : Gd d := by
  obtain ⟨a, b, c, e⟩ := odd_dat d h
  exact ⟨a, by omega, by omega, e⟩
theorem gd_nb {d : D} (h : nb d = true) (hw : wt d ≤ 190000) (hd : dep d ≤ 50) : Gd d := ⟨nb_dat h, hw, hd, nb_asc h⟩
theorem gd_bent {d x : D} (h : Bt d x) (hw : wt d ≤ 50000) (hd : dep d ≤ 10) : Gd x := ⟨h.1, by have := h.2.1; omega, by have := h.2.2.1; omega, h.2.2.2⟩
def Vq (p : Pr) : Prop := Vo p.1 ∧ Vo p.2
theorem Vq.pb {p : Pr} (h : Vq p) : Pb p := ⟨h.1.ob, h.2.ob⟩
theorem Vq.nb {p : Pr} (h : Vq p) : nb (pr p) = true := nb_pr ⟨fun q e => (h.1 q e).mono (by decide), fun q e => (h.2 q e).mono (by decide)⟩
theorem nb_ps (h : ∀ p ∈ ps, Vq p) : nbs (ps.map pr) = true := nbs_of fun d hd => by
  obtain ⟨p, hp, rfl⟩ := List.mem_map.mp hd
  exact (h p hp).nb
/-- a loop over items that pass -/
theorem at_all {B : MS} {y0 y1 y2 y3 y4 y5 y6 y7 y8 y9 y10 y11 : PM.Slot} {Z : SOut → Prop} (h : Pn 0 cs N s)
    (hB : ∀ x ∈ xs, ∀ y11 s, Pn 0 cs N s → ∀ Z : SOut → Prop, (∀ y11 s, Pn 0 cs N s → Z (.nx ⟨[y0, y1, y2, y3, y4, y5, y6, .sh x, y8, y9, y10, y11], s⟩)) → At (B ⟨[y0, y1, y2, y3, y4, y5, y6, .sh x, y8, y9, y10, y11], s⟩) Z)
    (hZ : ∀ y7 y11 s, Pn 0 cs N s → At (.nx ⟨[y0, y1, y2, y3, y4, y5, y6, y7, y8, y9, y10, y11], s⟩) Z) : At (mForL (gN 7) B xs ⟨[y0, y1, y2, y3, y4, y5, y6, y7, y8, y9, y10, y11], s⟩) Z := by
  refine at_for (fun _ st => ∃ y7 y11 s, Pn 0 cs N s ∧ st = ⟨[y0, y1, y2, y3, y4, y5, y6, y7, y8, y9, y10, y11], s⟩) ⟨_, _, _, h, rfl⟩ ?_ ?_
  · rintro j _ x hx ⟨y7, y11, s, hP, rfl⟩ Z h1 _
    have := hB x (List.mem_of_getElem? hx) y11 s hP Z fun y11 s q => h1 _ ⟨_, _, _, q, rfl⟩
    simp_arith [kFs]
    exact this
  · rintro _ ⟨y7, y11, s, hP, rfl⟩
    exact hZ _ _ _ hP
def bodyR : MS := mIfS (mNot (mB (mCall 1 F__law_is_right (mCons (mV 7) (mNil))))) (mRet (mL (.bl false))) (mNx)
def bodyX : MS := mIfS (mNot (mB (mCall 1 F__law_is_exact (mCons (mV 7) (mNil))))) (mRet (mL (.bl false))) (mNx)
def bodyN : MS := mSeq (mSet 11 (mTup (mCons (mL (.str "players")) (mCons (mUn opRepr (mV 7)) (mCons (mL (.bl true)) (mNil))))))
  (mSeq (mIfS (mAnd (mB (mOp opIsi (mV 7) (mL (.val (.ty "int"))))) (mAnd (mNot (mB (mOp opIsi (mV 7) (mL (.val (.ty "bool")))))) (mCh opLt opLt (mL (.int 0)) (mV 7) (mL (.int 4))))) (mSet 11 (mUn opRepr (mOp opMulA (mTup (mCons (mTup (mCons (mL .non) (mCons (mL .non) (mNil)))) (mNil))) (mV 7)))) (mNx))
  (mIfS (mCmp opNe (mCall 1 F__law_none (mCons (mV 7) (mNil))) (mV 11)) (mRet (mL (.bl false))) (mNx)))
variable {y0 y1 y2 y3 y4 y5 y6 y7 y8 y9 y10 y11 : PM.Slot} {Z : SOut → Prop}
theorem loopR (hx : ∀ x ∈ xs, Gd x) (h : Pn 0 cs N s) (hZ : ∀ y7 y11 s, Pn 0 cs N s → At (.nx ⟨[y0, y1, y2, y3, y4, y5, y6, y7, y8, y9, y10, y11], s⟩) Z) : At (mForL (gN 7) bodyR xs ⟨[y0, y1, y2, y3, y4, y5, y6, y7, y8, y9, y10, y11], s⟩) Z := by
  refine at_all h (fun x m y11 s hP Z hz => ?_) hZ
  obtain ⟨g1, g2, g3, g4⟩ := hx x m
  obtain ⟨_, s2, e1, rfl, e2⟩ := s_right (s := s) g1 (by unfold lim; omega) (by omega) g4
  have vx := fun st => view_dat (st := st) g1
  unfold bodyR
  simp_arith [vx, e1]
  exact hz _ _ (pn_gw hP e2)
theorem loopX (hx : ∀ x ∈ xs, Gd x) (h : Pn 0 cs N s) (hZ : ∀ y7 y11 s, Pn 0 cs N s → At (.nx ⟨[y0, y1, y2, y3, y4, y5, y6, y7, y8, y9, y10, y11], s⟩) Z) : At (mForL (gN 7) bodyX xs ⟨[y0, y1, y2, y3, y4, y5, y6, y7, y8, y9, y10, y11], s⟩) Z := by
  refine at_all h (fun x m y11 s hP Z hz => ?_) hZ
  obtain ⟨g1, g2, g3, g4⟩ := hx x m
  obtain ⟨_, s2, e1, rfl, e2⟩ := s_isexact (s := s) g1 (by omega) (by omega) g4
  have vx := fun st => view_dat (st := st) g1
  unfold bodyX
  simp_arith [vx, e1]
  exact hz _ _ (pn_gw hP e2)
theorem ne_none (h : dat x = true) (ha : asc x = true) : opNe (noneD x) (noneD x) = some false := by
  have o1 := ok_strOk (asc_ok h ha)
  have s1 : PyData.strOk (Str.ofString "players") = true := by decide +kernel
  have inv : opNe (.tup [.str (Str.ofString "players"), .str (shw x), .bl true]) (.tup [.str (Str.ofString "players"), .str (shw x), .bl true]) = some false := by
    have : opEq (.tup [.str (Str.ofString "players"), .str (shw x), .bl true]) (.tup [.str (Str.ofString "players"), .str (shw x), .bl true]) = some true := by
      refine opEq_t ?_
      simp [opEq0, D.py, D.pys, SeqAt.shaped, PyData.canLay0, PyData.canLayAll0, PyData.depth, PyData.depthAll, PyData.eqv, PyData.eqvAll, o1, s1]
    unfold opNe
    rw [this]
    rfl
  unfold noneD
  split
  · split
    · exact ne_strS
    · exact inv
  · exact inv
theorem loopN (hx : ∀ x ∈ xs, Gd x) (h : Pn 0 cs N s) (hZ : ∀ y7 y11 s, Pn 0 cs N s → At (.nx ⟨[y0, y1, y2, y3, y4, y5, y6, y7, y8, y9, y10, y11], s⟩) Z) : At (mForL (gN 7) bodyN xs ⟨[y0, y1, y2, y3, y4, y5, y6, y7, y8, y9, y10, y11], s⟩) Z := by
  refine at_all h (fun x m y11 s hP Z hz => ?_) hZ
  obtain ⟨g1, g2, g3, g4⟩ := hx x m
  obtain ⟨_, s2, e1, rfl, e2⟩ := s_none (s := s) g1 (by unfold lim; omega) (by omega)
  have vx := fun st => view_dat (st := st) g1
  have rp := rep_dat g1 (by omega) (by unfold lim; omega)
  have hz := fun y11 => hz y11 _ (pn_gw hP e2)
  have ne := ne_none g1 g4
  have i1 := e_isIn g1
  have i2 := e_isB g1
  unfold bodyN
  cases hb : inB x with
  | true =>
    obtain ⟨i, rfl⟩ : ∃ i, x = .int i := by cases x <;> first | exact ⟨_, rfl⟩ | (simp [inB] at hb; done)
    have hb2 : 1 ≤ i ∧ i ≤ 3 := of_decide_eq_true hb
    obtain ⟨k, rfl, hk⟩ : ∃ k : Nat, i = (k : Int) ∧ (k = 1 ∨ k = 2 ∨ k = 3) := ⟨i.toNat, by omega, by omega⟩
    have nd : noneD (.int (k : Int)) = .str (shw (.tup (nns k))) := by
      show (if 1 ≤ (k : Int) ∧ (k : Int) ≤ 3 then D.str (shw (.tup (nns ((k : Int)).toNat))) else _) = _
      rw [if_pos (by omega)]
      rfl
    have mu : opMulA (.tup [.tup [.non, .non]]) (.int (k : Int)) = some (.sh (.tup (nns k))) := by rcases hk with rfl | rfl | rfl <;> rfl
    have rt : opRepr (.tup (nns k)) = some (.sh (.str (shw (.tup (nns k))))) := by rcases hk with rfl | rfl | rfl <;> exact rep_dat (by decide +kernel) (by decide +kernel) (by decide +kernel)
    have i1 : opIsi (.int (k : Int)) (.val (.ty "int")) = some (.sh (.bl true)) := i1
    have i2 : opIsi (.int (k : Int)) (.val (.ty "bool")) = some (.sh (.bl false)) := i2
    have k1 : decide ((0 : Int) < (k : Int)) = true := decide_eq_true (by omega)
    have k2 : decide ((k : Int) < 4) = true := decide_eq_true (by omega)
    rw [nd] at ne e1
    simp_arith [rp, i1, i2, k1, k2, mu, rt, e1, ne]
    exact hz _
  | false =>
    have nd : noneD x = .tup [.str (Str.ofString "players"), .str (shw x), .bl true] := by
      cases x with
      | int i =>
        show (if 1 ≤ i ∧ i ≤ 3 then _ else _) = _
        rw [if_neg (of_decide_eq_false hb)]
      | _ => rfl
    rw [nd] at ne e1
    by_cases hi : isI x = true
    · obtain ⟨i, rfl⟩ : ∃ i, x = .int i := by cases x <;> first | exact ⟨_, rfl⟩ | (cases hi; done)
      have hb := of_decide_eq_false hb
      have i1 : opIsi (.int i) (.val (.ty "int")) = some (.sh (.bl true)) := i1
      have i2 : opIsi (.int i) (.val (.ty "bool")) = some (.sh (.bl false)) := i2
      by_cases k1 : (0 : Int) < i
      · have k2 : decide (i < 4) = false := decide_eq_false (by omega)
        have k1 : decide ((0 : Int) < i) = true := decide_eq_true k1
        simp_arith [rp, i1, i2, k1, k2, e1, ne]
        exact hz _
      · have k1 : decide ((0 : Int) < i) = false := decide_eq_false k1
        simp_arith [rp, i1, i2, k1, e1, ne]
        exact hz _
    · rw [Bool.not_eq_true] at hi
      rw [hi, Bool.false_or] at i1
      cases hB : isB x with
      | true =>
        rw [hB] at i1 i2
        simp_arith [vx, rp, i1, i2, e1, ne]
        exact hz _
      | false =>
        rw [hB] at i1 i2
        simp_arith [vx, rp, i1, i2, e1, ne]
        exact hz _
end
end A73
set_option Elab.async false
set_option linter.all false
set_option maxRecDepth 100000
set_option maxHeartbeats 4000000
set_option exponentiation.threshold 20000
namespace A73
open PySem PySem.Spec L2 PM Lb
open D4 (F__law_draw F__law_value F__law_pick F__law_odd F__law_bent p_draw p_pick p_value p_odd p_bent Vo odd_dat Bt nat_lt oddA oddB oddC opAdd_l)
open D1 (Pn pen s_pen F__law_pen m__law_pen Pn.le)
section
variable {s : List Cell} {cs : List Int} {N : Int} {ps qs : List Pr} {xs ds : List D} {x : D}
variable {y0 y1 y2 y3 y4 y5 y6 y7 y8 y9 y10 y11 : PM.Slot}
theorem at_vals {Z : Out RV → Prop} (hP : Pn 0 cs N s) (hN : N ≤ 400000000) (K : Nat) (hK : K ≤ 3)
    (hZ : ∀ (ps : List Pr) s', ps.length = K → (∀ p ∈ ps, Vq p) → Pn 0 cs (N + 80 * K) s' → At (.ok (.ow (.ls (ps.map pr))) ⟨[y0, .sh (.obj 0), y2, y3, y4, .un, y6, y7, y8, y9, y10, y11], s'⟩) Z) :
    At (kCo [5] (gN 5) mYes (mTup (mCons (mCall 1 F__law_value (mCons (mV 1) (mNil))) (mCons (mCall 1 F__law_value (mCons (mV 1) (mNil))) (mNil)))) (rng 0 K) ⟨[y0, .sh (.obj 0), y2, y3, y4, y5, y6, y7, y8, y9, y10, y11], s⟩) Z := by
  refine at_co [y0, .sh (.obj 0), y2, y3, y4, .un, y6, y7, y8, y9, y10, y11] (fun j s acc => ∃ ps : List Pr, acc = ps.map pr ∧ ps.length = j ∧ (∀ p ∈ ps, Vq p) ∧ Pn 0 cs (N + 80 * j) s) rfl rfl ⟨[], rfl, rfl, by simp, by simpa using hP⟩ (by rw [rng_len]; unfold lim; omega) ?_ ?_
  · rintro j s _ d hd ⟨ps, rfl, hl, hp, hJ⟩ Z h1 h2
    have hj := (List.getElem?_eq_some_iff.mp hd).1
    rw [rng_len] at hj
    obtain ⟨o1, s1, a1, a2, _, a4⟩ := p_value hJ (by omega)
    obtain ⟨o2, s2, b1, b2, _, b4⟩ := p_value a2 (by omega)
    simp_arith [a1, b1]
    exact h1 (pr (o1, o2)) _ s2 rfl ⟨ps ++ [(o1, o2)], by simp, by simp [hl], fun p hp' => (List.mem_append.mp hp').elim (hp p) fun e => by rw [List.mem_singleton.mp e]; exact ⟨a4, b4⟩, b2.le (by push_cast; omega)⟩
  · rintro s' _ ⟨ps, rfl, hl, hp, hJ⟩
    rw [rng_len] at hl hJ
    exact hZ ps s' hl hp hJ
def lows (ps : List Pr) : List D := (ps.filter fun p => p.1.isSome).map fun p => op p.1
theorem at_lows {Z : Out RV → Prop} (hl : ps.length ≤ 3) (hZ : At (.ok (.ow (.ls (lows ps))) ⟨[y0, y1, y2, y3, y4, y5, y6, y7, y8, .un, .un, y11], s⟩) Z) :
    At (kCo [9, 10] (gT 2 (gsCons (gN 9) (gsCons (gN 10) (gsNil)))) (mCmp opIsNot2 (mV 9) (mL .non)) (mV 9) (ps.map pr) ⟨[y0, y1, y2, y3, y4, y5, y6, y7, y8, y9, y10, y11], s⟩) Z := by
  refine at_coF pr (fun p => op p.1) (fun p => p.1.isSome) rfl (by unfold lim; omega) (fun p hp Z hz => ?_) hZ
  obtain ⟨o1, o2⟩ := p
  have as : asSeq (pr (o1, o2)) = some [op o1, op o2] := rfl
  cases o1 with
  | none =>
    have e : opIsNot2 (op none) .non = some false := rfl
    have v : ∀ st, view st (.sh (op none)) = some (op none) := fun _ => rfl
    simp_arith [as, v, e]
    exact hz _ rfl
  | some q =>
    have e : opIsNot2 (op (some q)) .non = some true := rfl
    have v : ∀ st, view st (.sh (op (some q))) = some (op (some q)) := fun _ => rfl
    simp_arith [as, v, e]
    exact hz _ rfl
theorem gd_l (h : ∀ d ∈ ds, nb d = true) (hw : wts ds ≤ 180000) (hd : deps ds ≤ 40) : Gd (.lst ds) ∧ Gd (.tup ds) := by
  have a := nbs_of h
  exact ⟨gd_nb (by rwa [nb_lst]) (by rw [wt_lst]; omega) (by rw [dep_lst]; omega), gd_nb (by rwa [nb_tup]) (by rw [wt_tup]; omega) (by rw [dep_tup]; omega)⟩
theorem lows_nb (h : ∀ p ∈ ps, Vq p) : ∀ d ∈ lows ps, nb d = true ∧ wt d ≤ 3849 ∧ dep d ≤ 1 := fun d hd => by
  obtain ⟨p, hp, rfl⟩ := List.mem_map.mp hd
  have hp := h p (List.mem_filter.mp hp).1
  refine ⟨nb_op fun q e => (hp.1 q e).mono (by decide), ?_, ?_⟩
  · cases p.1 with
    | none => simp [op]
    | some q => show wt (fr q) ≤ _; rw [wt_fr]; omega
  · cases p.1 with
    | none => simp [op]
    | some q => simp [op, fr]
def bodyT : MS := (mSeq (mSet 3 (mOp opAdd (mL (.int 1)) (mCall 2 F__law_draw (mCons (mV 1) (mCons (mL (.int 3)) (mNil))))))
  (mSeq (mSet 4 (mComp [5] (mRg1 (mV 3)) (gN 5) (mYes) (mTup (mCons (mCall 1 F__law_value (mCons (mV 1) (mNil))) (mCons (mCall 1 F__law_value (mCons (mV 1) (mNil))) (mNil))))))
  (mSeq (mSet 6 (mOp opAdd (mSl (mV 4) (mNo) (mPt (mUn opNeg (mL (.int 1))))) (mLst (mCons (mTup (mCons (mCall 1 F__law_value (mCons (mV 1) (mNil))) (mCons (mCall 2 F__law_pick (mCons (mV 1) (mCons (mLst (mCons (mOp opIx (mOp opIx (mV 4) (mUn opNeg (mL (.int 1)))) (mL (.int 1))) (mCons (mL .non) (mNil)))) (mNil)))) (mNil)))) (mNil)))))
  (mSeq (mIfS (mOr (mNot (mB (mCall 1 F__law_is_right (mCons (mV 4) (mNil))))) (mOr (mNot (mB (mCall 1 F__law_is_right (mCons (mUn opTuple (mV 4)) (mNil))))) (mNot (mB (mCall 2 F__law_is_equal (mCons (mV 4) (mCons (mV 6) (mNil)))))))) (mRet (mL (.bl false))) (mNx))
  (mSeq (mFor (mIt (mLst (mCons (mCall 2 (F__law_bent 6) (mCons (mV 1) (mCons (mV 4) (mNil)))) (mCons (mCall 2 (F__law_bent 6) (mCons (mV 1) (mCons (mUn opTuple (mV 4)) (mNil)))) (mCons (mCall 1 F__law_odd (mCons (mV 1) (mNil))) (mCons (mOp opAdd (mV 4) (mV 4)) (mCons (mLst (mCons (mV 4) (mNil))) (mNil)))))))) (gN 7) (mIfS (mNot (mB (mCall 1 F__law_is_right (mCons (mV 7) (mNil))))) (mRet (mL (.bl false))) (mNx)))
  (mSeq (mSet 8 (mSl (mOp opAdd (mComp [9, 10] (mIt (mV 4)) (gT 2 (gsCons (gN 9) (gsCons (gN 10) (gsNil)))) (mCmp opIsNot2 (mV 9) (mL .non)) (mV 9)) (mLst (mCons (mTup (mCons (mL (.int 1)) (mCons (mL (.int 2)) (mNil)))) (mNil)))) (mNo) (mPt (mL (.int 3)))))
  (mSeq (mFor (mIt (mLst (mCons (mV 8) (mCons (mUn opTuple (mV 8)) (mCons (mCall 2 (F__law_bent 6) (mCons (mV 1) (mCons (mV 8) (mNil)))) (mCons (mOp opAdd (mOp opAdd (mV 8) (mV 8)) (mV 8)) (mCons (mV 4) (mCons (mCall 1 F__law_odd (mCons (mV 1) (mNil))) (mNil))))))))) (gN 7) (mIfS (mNot (mB (mCall 1 F__law_is_exact (mCons (mV 7) (mNil))))) (mRet (mL (.bl false))) (mNx)))
  (mSeq (mFor (mIt (mLst (mCons (mV 3) (mCons (mL (.int 1)) (mCons (mL (.int 3)) (mCons (mL (.int 0)) (mCons (mL (.int 4)) (mCons (mUn opNeg (mL (.int 1))) (mCons (mL (.bl true)) (mCons (mL .non) (mCons (mL (.str "2")) (mCons (mCall 1 F__law_odd (mCons (mV 1) (mNil))) (mNil))))))))))))) (gN 7) (mSeq (mSet 11 (mTup (mCons (mL (.str "players")) (mCons (mUn opRepr (mV 7)) (mCons (mL (.bl true)) (mNil))))))
  (mSeq (mIfS (mAnd (mB (mOp opIsi (mV 7) (mL (.val (.ty "int"))))) (mAnd (mNot (mB (mOp opIsi (mV 7) (mL (.val (.ty "bool")))))) (mCh opLt opLt (mL (.int 0)) (mV 7) (mL (.int 4))))) (mSet 11 (mUn opRepr (mOp opMulA (mTup (mCons (mTup (mCons (mL .non) (mCons (mL .non) (mNil)))) (mNil))) (mV 7)))) (mNx))
  (mIfS (mCmp opNe (mCall 1 F__law_none (mCons (mV 7) (mNil))) (mV 11)) (mRet (mL (.bl false))) (mNx)))))
  (mIfS (mNot (mB (mCall 1 F__law_copied (mCons (mV 4) (mNil))))) (mRet (mL (.bl false))) (mNx))))))))))
theorem turn {B : MS} (hB : B = bodyT) {Z : SOut → Prop} (hP : Pn 0 cs N s) (hN : N ≤ 100000000) (hZ : ∀ z3 z4 z6 z7 z8 z11 s', Pn 0 cs (N + 10000) s' → Z (.nx ⟨[y0, .sh (.obj 0), y2, z3, z4, .un, z6, z7, z8, .un, .un, z11], s'⟩)) :
    At (B ⟨[y0, .sh (.obj 0), y2, y3, y4, y5, y6, y7, y8, y9, y10, y11], s⟩) Z := by
  subst hB
  obtain ⟨r, s1, a1, a2, _, a4, a5⟩ := p_draw 3 (by decide) (nat_lt (k := 2) (by decide) (by decide)) hP (by omega)
  obtain ⟨w, rfl⟩ := Int.eq_ofNat_of_zero_le a4
  obtain ⟨K, hK⟩ : ∃ K : Nat, K = 1 + w := ⟨_, rfl⟩
  have ad : (1 : Int) + (w : Int) = (K : Int) := by omega
  have kr : ∀ st, kRg (.sh (.int (K : Int))) st = .ok (rng 0 K) st := fun st => kRg_e (small_nat (by omega))
  unfold bodyT
  simp_arith [a1, ad, kr]
  refine at_vals a2 (by omega) K (by omega) fun ps s2 lps hv b2 => ?_
  have h1 : 1 ≤ ps.length := by omega
  have h3 : ps.length ≤ 3 := by omega
  have hp : ∀ p ∈ ps, Pb p := fun p hx => (hv p hx).pb
  obtain ⟨q0, p0, eps⟩ : ∃ q0 p0, ps = q0 ++ [p0] := by
    rcases List.eq_nil_or_concat ps with z | ⟨q0, p0, z⟩
    · rw [z] at h1; simp at h1
    · exact ⟨q0, p0, by rw [z, List.concat_eq_append]⟩
  obtain ⟨P, hPe⟩ : ∃ P, P = ps.map pr := ⟨_, rfl⟩
  have ep : P = q0.map pr ++ [pr p0] := by rw [hPe, eps]; simp
  have ix1 : opIx (.lst P) (.int (-1)) = some (.sh (pr p0)) := by
    show (atI P (-1)).map RV.sh = _
    rw [ep, atI_last]
    rfl
  have ix2 : opIx (pr p0) (.int 1) = some (.sh (op p0.2)) := rfl
  have sl1 : opSl (.lst P) none (some (-1)) = some (.ow (.ls (q0.map pr))) := by
    show some (RV.ow (.ls (cut P none (some (-1))))) = _
    rw [cut_m1, ep, List.dropLast_concat]
  obtain ⟨o1, s3, c1, c2, _, c4⟩ := p_value b2 (by omega)
  obtain ⟨d, s4, d1, d2, _, d4⟩ := p_pick [op p0.2, .non] (by simp) (by simp) c2 (by omega)
  have v0 := hv p0 (by rw [eps]; simp)
  obtain ⟨o2, rfl, e4⟩ : ∃ o2, d = op o2 ∧ Vo o2 := by
    simp only [List.mem_cons, List.not_mem_nil, or_false] at d4
    rcases d4 with rfl | rfl
    · exact ⟨_, rfl, v0.2⟩
    · exact ⟨none, rfl, fun q e => by cases e⟩
  obtain ⟨qs, hqs⟩ : ∃ qs, qs = q0 ++ [(o1, o2)] := ⟨_, rfl⟩
  have eq : q0.map pr ++ [D.tup [op o1, op o2]] = qs.map pr := by rw [hqs]; simp [pr]
  have hq : ∀ p ∈ qs, Pb p := fun p hx => by
    rw [hqs] at hx
    rcases List.mem_append.mp hx with z | z
    · exact hp p (by rw [eps]; exact List.mem_append_left _ z)
    · rw [List.mem_singleton.mp z]
      exact Vq.pb ⟨c4, e4⟩
  have lq : ps.length = qs.length := by rw [hqs, eps]; simp
  have ad1 : opAdd (.lst (q0.map pr)) (.lst [.tup [op o1, op o2]]) = some (.ow (.ls (qs.map pr))) := by
    rw [opAdd_l (by
      have : q0.length + 1 = ps.length := by rw [eps]; simp
      simp only [List.length_map, List.length_singleton]
      unfold lim
      omega), eq]
  obtain ⟨t1, t2, t3, t4, t5, t6⟩ := dat_ps hp (by omega)
  have np := nb_ps hv
  have gL : Gd (.lst P) := by rw [hPe]; exact gd_nb (by rwa [nb_lst]) (by omega) (by omega)
  have gT : Gd (.tup P) := by rw [hPe]; exact gd_nb (by rwa [nb_tup]) (by omega) (by omega)
  obtain ⟨_, s5, f1, rfl, f2⟩ := s_right (s := s4) gL.1 (by have := gL.2.1; unfold lim; omega) (by have := gL.2.2.1; omega) gL.2.2.2
  obtain ⟨_, s6, g1, rfl, g2⟩ := s_right (s := s5) gT.1 (by have := gT.2.1; unfold lim; omega) (by have := gT.2.2.1; omega) gT.2.2.2
  obtain ⟨_, s7, i1, rfl, i2⟩ := s_equal (s := s6) hp hq lq h1 h3
  have j7 : Pn 0 cs (N + 8 + 80 * K + 40 + 8) s7 := pn_gw (pn_gw (pn_gw d2 f2) g2) i2
  rw [← hPe] at i1 ⊢
  have tp : opTuple (.lst P) = some (.sh (.tup P)) := rfl
  have k1 : ∀ a st, kLst [a] st = .ok (.ow (.ls [a])) st := fun a st => kLst_e (by simp [lim])
  have k2 : ∀ a b st, kLst [a, b] st = .ok (.ow (.ls [a, b])) st := fun a b st => kLst_e (by simp [lim])
  have k5 : ∀ a b c d e st, kLst [a, b, c, d, e] st = .ok (.ow (.ls [a, b, c, d, e])) st := fun a b c d e st => kLst_e (by simp [lim])
  have vp : ∀ p st, view st (.sh (pr p)) = some (pr p) := fun _ _ => rfl
  -- bent lists
  obtain ⟨r1, s8, l1, x1, l2, l3, l4, _⟩ := p_bent 6 (.lst P) _ s7 (by rw [hPe]; omega) (by rw [hPe, nb_lst]; exact np) (by rw [hPe]; omega) j7 (by omega)
  obtain ⟨r2, s9, m1, x2, m2, m3, m4, _⟩ := p_bent 6 (.tup P) _ s8 (by rw [hPe]; omega) (by rw [hPe, nb_tup]; exact np) (by rw [hPe]; omega) l4 (by omega)
  obtain ⟨od, s10, n1, n2, _, n4⟩ := p_odd m4 (by omega)
  have of1 := fun st => ofF_is (st := st) (s := s8) l2
  have of2 := fun st => ofF_is (st := st) (s := s9) m2
  have fz1 := fun st => l2.frz (st := st)
  have fz2 := fun st => m2.frz (st := st)
  have lP : P.length ≤ 3 := by rw [hPe, List.length_map]; exact h3
  have ad2 : opAdd (.lst P) (.lst P) = some (.ow (.ls (P ++ P))) := opAdd_l (by unfold lim; omega)
  simp_arith [sl1, ix1, ix2, vp, c1, k1, k2, d1, ad1, f1, tp, g1, i1, l1, m1, n1, of1, of2, fz1, fz2, ad2, k5]
  refine loopR ?_ n2 fun y7 y11 s11 j11 => ?_
  · have nL : ∀ d ∈ P, nb d = true := fun d hd => by rw [hPe] at hd; exact nbs_mem np hd
    have w1 : wts P ≤ 50000 := by rw [wt_lst] at t3; rw [hPe]; omega
    have w2 : deps P ≤ 3 := by rw [dep_lst] at t5; rw [hPe]; omega
    have z1 := (gd_l (ds := P ++ P) (fun d hd => (List.mem_append.mp hd).elim (nL d) (nL d)) (by rw [wts_app]; omega) (by rw [deps_app]; omega)).1
    have z2 := (gd_l (ds := [.lst P]) (fun d hd => by rw [List.mem_singleton.mp hd, nb_lst]; exact nbs_of nL) (by simp; omega) (by simp; omega)).1
    intro x hx
    simp only [List.mem_cons, List.not_mem_nil, or_false] at hx
    rcases hx with rfl | rfl | rfl | rfl | rfl
    · exact gd_bent l3 (by rw [wt_lst]; rw [wt_lst, ← hPe] at t3; omega) (by rw [dep_lst]; omega)
    · exact gd_bent m3 (by rw [wt_tup]; rw [wt_tup, ← hPe] at t4; omega) (by rw [dep_tup]; omega)
    · exact gd_odd n4
    · exact z1
    · exact z2
  -- the lows
  obtain ⟨L, hL⟩ : ∃ L, L = lows ps ++ [D.tup [.int 1, .int 2]] := ⟨_, rfl⟩
  obtain ⟨W, hW⟩ : ∃ W, W = cut L none (some 3) := ⟨_, rfl⟩
  have ll : (lows ps).length ≤ 3 := by
    unfold lows
    rw [List.length_map]
    exact Nat.le_trans (List.length_filter_le _ _) h3
  have ad3 : opAdd (.lst (lows ps)) (.lst [.tup [.int 1, .int 2]]) = some (.ow (.ls L)) := by
    rw [opAdd_l (by simp only [List.length_singleton]; unfold lim; omega), hL]
  have sl3 : opSl (.lst L) none (some 3) = some (.ow (.ls W)) := by rw [hW]; rfl
  have it : asIt (.lst P) = some (ps.map pr) := by rw [hPe]; rfl
  simp_arith [it]
  refine at_lows h3 ?_
  have sub : W.Sublist L := by rw [hW]; exact cut_sub _ _ _
  have lL : L.length ≤ 4 := by rw [hL, List.length_append, List.length_singleton]; omega
  have lW : W.length ≤ 4 := Nat.le_trans sub.length_le lL
  have one : ∀ d ∈ L, nb d = true ∧ wt d ≤ 3849 ∧ dep d ≤ 1 := fun d hd => by
    rw [hL] at hd
    rcases List.mem_append.mp hd with z | z
    · exact lows_nb hv d z
    · rw [List.mem_singleton.mp z]
      decide +kernel
  have one := fun d hd => one d (sub.mem hd)
  have wW : wts W ≤ 3851 * W.length := by
    clear sub hW sl3
    induction W with
    | nil => simp
    | cons a W ih =>
      have := (one a (by simp)).2.1
      have := ih (by simp at lW; omega) fun d hd => one d (List.mem_cons_of_mem _ hd)
      rw [wts_cons, List.length_cons]
      omega
  have dW : deps W ≤ 1 := deps_le fun d hd => (one d hd).2.2
  have nW : ∀ d ∈ W, nb d = true := fun d hd => (one d hd).1
  obtain ⟨wl, wt⟩ := gd_l nW (by omega) (by omega)
  obtain ⟨r3, s12, p1, x3, p2, p3, p4, _⟩ := p_bent 6 (.lst W) _ s11 (by rw [dep_lst]; omega) (by rw [nb_lst]; exact nbs_of nW) (by rw [wt_lst]; omega) j11 (by omega)
  obtain ⟨od2, s13, q1, q2, _, q4⟩ := p_odd p4 (by omega)
  have of3 := fun st => ofF_is (st := st) (s := s12) p2
  have fz3 := fun st => p2.frz (st := st)
  have tpW : opTuple (.lst W) = some (.sh (.tup W)) := rfl
  have ad4 : opAdd (.lst W) (.lst W) = some (.ow (.ls (W ++ W))) := opAdd_l (by unfold lim; omega)
  have ad5 : opAdd (.lst (W ++ W)) (.lst W) = some (.ow (.ls (W ++ W ++ W))) := opAdd_l (by rw [List.length_append]; unfold lim; omega)
  have k6 : ∀ a b c d e f st, kLst [a, b, c, d, e, f] st = .ok (.ow (.ls [a, b, c, d, e, f])) st := fun a b c d e f st => kLst_e (by simp [lim])
  have k10 : ∀ a b c d e f g h i j st, kLst [a, b, c, d, e, f, g, h, i, j] st = .ok (.ow (.ls [a, b, c, d, e, f, g, h, i, j])) st := fun a b c d e f g h i j st => kLst_e (by simp [lim])
  simp_arith [k1, ad3, sl3, tpW, p1, of3, fz3, ad4, ad5, q1, k6]
  refine loopX ?_ q2 fun y7 y11 s14 j14 => ?_
  · have z1 := (gd_l (ds := W ++ W ++ W) (fun d hd => by
      rcases List.mem_append.mp hd with z | z
      · exact (List.mem_append.mp z).elim (nW d) (nW d)
      · exact nW d z) (by rw [wts_app, wts_app]; omega) (by rw [deps_app, deps_app]; omega)).1
    intro x hx
    simp only [List.mem_cons, List.not_mem_nil, or_false] at hx
    rcases hx with rfl | rfl | rfl | rfl | rfl | rfl
    · exact wl
    · exact wt
    · exact gd_bent p3 (by rw [wt_lst]; omega) (by rw [dep_lst]; omega)
    · exact z1
    · exact gL
    · exact gd_odd q4
  obtain ⟨od3, s15, u1, u2, _, u4⟩ := p_odd j14 (by omega)
  simp_arith [u1, k10]
  refine loopN ?_ u2 fun y7 y11 s16 j16 => ?_
  · have gk : Gd (.int (K : Int)) := by
      have : K = 1 ∨ K = 2 ∨ K = 3 := by omega
      unfold Gd
      rcases this with z | z | z <;> rw [z] <;> decide +kernel
    intro x hx
    simp only [List.mem_cons, List.not_mem_nil, or_false] at hx
    rcases hx with rfl | rfl | rfl | rfl | rfl | rfl | rfl | rfl | rfl | rfl
    · exact gk
    · unfold Gd; decide +kernel
    · unfold Gd; decide +kernel
    · unfold Gd; decide +kernel
    · unfold Gd; decide +kernel
    · unfold Gd; decide +kernel
    · unfold Gd; decide +kernel
    · unfold Gd; decide +kernel
    · unfold Gd; decide +kernel
    · exact gd_odd u4
  obtain ⟨_, s17, v1, rfl, v2⟩ := s_copied (s := s16) hp h1 h3
  rw [← hPe] at v1
  simp_arith [v1]
  exact hZ _ _ _ _ _ _ _ ((pn_gw j16 v2).le (by omega))
end
end A73
set_option Elab.async false
set_option linter.all false
set_option maxRecDepth 100000
set_option maxHeartbeats 4000000
set_option exponentiation.threshold 20000
namespace A73
open PySem PySem.Spec L2 PM Lb
open D1 (Pn pen s_pen F__law_pen m__law_pen Pn.le)
theorem m_law_eq : m_law = mSeq (mSet 1 (mCall 1 F__law_pen (mCons (mV 0) (mNil)))) (mSeq (mFor (mRg1 (mOp opAdd (mL (.int 6)) (mOp opMin (mL (.int 6)) (mUn opLen (mV 0))))) (gN 2) bodyT) (mRet (mL (.bl true)))) := rfl
theorem law_true (ns : List Int) (hl : ns.length ≤ 63) (hb : ∀ z ∈ ns, Builtin.Int.intBits z ≤ 1048576) : ∃ st, F_law [.lsF (ns.map .int)] [] = .ret (.sh (.bl true)) st := by
  have p := s_pen ns []
  have h : Pn 0 (ns.take 63) 0 [.dc (pen (ns.take 63) 0 0)] := ⟨by rw [List.length_take]; omega, 0, 0, rfl, by omega, by omega, by omega⟩
  obtain ⟨T, hT, hT2⟩ : ∃ T : Nat, (6 : Int) + (if (ns.length : Int) < 6 then (ns.length : Int) else 6) = T ∧ T ≤ 12 := by
    by_cases h : (ns.length : Int) < 6
    · exact ⟨6 + ns.length, by rw [if_pos h]; omega, by omega⟩
    · exact ⟨12, by rw [if_neg h]; rfl, by omega⟩
  rw [List.nil_append, List.length_nil] at p
  have kr : ∀ st, kRg (.sh (.int (T : Int))) st = .ok (rng 0 T) st := fun st => kRg_e (small_nat (by omega))
  have mi : opMin (.int 6) (.int (ns.length : Int)) = some (.sh (.int (if (ns.length : Int) < 6 then (ns.length : Int) else 6))) := rfl
  have ln : opLen (.lsF (ns.map .int)) = some (.sh (.int (ns.length : Int))) := by simp
  unfold F_law
  rw [m_law_eq]
  generalize (if (ns.length : Int) < 6 then (ns.length : Int) else 6) = mn at *
  refine at_p (P := fun o => ∃ st, o = FRes.ret (.sh (.bl true)) st) fun Z hZ => ?_
  simp_arith [p, mi, ln, hT, kr]
  refine at_for (fun j st => ∃ y2 y3 y4 y5 y6 y7 y8 y9 y10 y11 s, Pn 0 (ns.take 63) (10000 * j) s ∧ st = ⟨[.sh (.lsF (ns.map .int)), .sh (.obj 0), y2, y3, y4, y5, y6, y7, y8, y9, y10, y11], s⟩) ⟨_, _, _, _, _, _, _, _, _, _, _, by simpa using h, rfl⟩ ?_ ?_
  rotate_left
  · rintro _ ⟨y2, y3, y4, y5, y6, y7, y8, y9, y10, y11, s, hP, rfl⟩
    simp_arith []
    exact hZ _ ⟨_, rfl⟩
  rintro j _ x hx ⟨y2, y3, y4, y5, y6, y7, y8, y9, y10, y11, s, hP, rfl⟩ Z h1 _
  have hj := (List.getElem?_eq_some_iff.mp hx).1
  rw [rng_len] at hj
  have A := turn (y0 := .sh (.lsF (ns.map .int))) (y2 := .sh x) (y3 := y3) (y4 := y4) (y5 := y5) (y6 := y6) (y7 := y7) (y8 := y8) (y9 := y9) (y10 := y10) (y11 := y11) (Z := Z) rfl hP (by omega) fun z3 z4 z6 z7 z8 z11 s' q => h1 _ ⟨_, _, _, _, _, _, _, _, _, _, _, q.le (by push_cast; omega), rfl⟩
  simp_arith []
  exact A
end A73
set_option Elab.async false
set_option linter.all false
set_option maxRecDepth 100000
set_option maxHeartbeats 0
open PySem PySem.W PySem.Calls PyProof.Rows
theorem PySem.Challenge.cw_pactroads_k73_wishes_made_holds : PySem.Challenge.rw_pactroads_k73_wishes_made.Holds := by
  w_on; o_law
  refine HandSHeadRun.head_any (r := OpenLaw.row PySem.Challenge.rw_pactroads_k73_wishes_made) (q := view (OpenLaw.row PySem.Challenge.rw_pactroads_k73_wishes_made).prog [43]) (H := A73.hkH) (ob := A73.obH) (M := 4000) (loose := A73.looseH) (d := HandSHeadRun.topDef (OpenLaw.row PySem.Challenge.rw_pactroads_k73_wishes_made).prog 43) (kwd := []) A73.obH_eq
    (by kernel_rfl) (fun s => by kernel_rfl) A73.runH (by kernel_rfl) (by kernel_rfl) (by kernel_rfl) (by rfl) (by first | assumption | decide +kernel) (by decide +kernel) ⟨rfl, rfl, rfl, rfl, rfl, by decide +kernel⟩ ?hw ?hc
  case hw => w_witness2
  case hc =>
    refine PM.law_endC (l := PySem.Challenge.rw_pactroads_k73_wishes_made) (k := 11) rfl (by kernel_rfl) ⟨rfl, by decide, by decide⟩ ?F
    intro w mg fa h Y G hmg0
    obtain ⟨K, KX, c⟩ := Y
    have hmg : mg ("law" : PySem.Str) = some (.ref fa) := by
      have e : (HandSHeadRun.topDef (OpenLaw.row PySem.Challenge.rw_pactroads_k73_wishes_made).prog 43).name = ("law" : PySem.Str) := by kernel_rfl
      rw [← e]
      exact hmg0
    have e := hmg.symm.trans (He.glo_ok KX G (c.fact 25 (f := fun K => (He.Fa.glo "law").ok K) rfl))
    cases e
    exact ⟨K, A73.F_law, KX, fun base _ _ => A73.ok_law KX G c, A73.law_true⟩
