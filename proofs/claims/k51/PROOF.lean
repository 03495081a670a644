import PyProof.Rows.All
import Wide.All
import OpenK.AllK
import Wide.FinOn
import HandS.ForMost
import HandS.Exc
import HandS.TryOnly
import HandS.TupAny
import HandS.TupMul
import HandS.Style
import HandS.Deep
import HandS.IsInst
import KE.KEqDict
import HandS.Flow
import HandS.SetKeys
import HandS.SortInts
import HandS.Iter
import HandS.More
import HandS.Small
import HandS.List
import PyProof.AutoSeq1
import HandS.Ends
import HandS.Comp
import KE.GoesEnum
import PyProof.ReprRoads
import HandS.SortOrd
import HandS.SortRule
import HandS.TupSets
import KE.KSortTupAny
import PyProof.Rows.FactsT3
import HandS.SetFor
import PyProof.Rows.SetFrom
import PyProof.Rows.SortStr
import HandS.Zip
import KE.KDictZip
import HandS.StrMore
import HandS.Conv
import HandS.Text
import HandS.Dict
import KE.KDictCopyH
import PySem.Challenge.RW_nearestpattern_k51_any_value_as_tree
set_option Elab.async false
set_option linter.all false
set_option maxRecDepth 100000
set_option autoImplicit false
/-! A small interpreter over trees, and what it has to do with the abstract heap. -/
namespace VM
open PySem L2

/-! ### 1. values, cells, outcomes -/
/-- a value as a tree; a list or dict in it stands still for ever -/
inductive D where
  | non | bl (b : Bool) | int (i : Int) | str (x : Str)
  | tup (ds : List D) | lst (ds : List D) | dic (ks : List Key) (ds : List D)
  /-- a dict whose keys are tuples -/
  | dct (ks : List (List Key)) (ds : List D)
  /-- the script -/
  | scr (ns : List Int)
  deriving Inhabited
/-- what a cell holds -/
inductive CV where
  | lst (ds : List D) | dic (ks : List Key) (ds : List D) | dct (ks : List (List Key)) (ds : List D)
  deriving Inhabited
structure Cell where
  live : Bool
  val : CV
  deriving Inhabited
abbrev Sto := List Cell
/-- what a slot holds -/
inductive SV where
  | dat (d : D) | cel (k : Nat)
  deriving Inhabited
abbrev Env := List (Option SV)
/-- what an expression gives: data, a cell, or a new object that nobody else holds -/
inductive EV where
  | dat (d : D) | cel (k : Nat) | new (c : CV)
  deriving Inhabited
structure Exc where
  cls : Nat
  fs : List (Str × D)
  deriving Inhabited
inductive Res (α : Type) where
  | ok (a : α) (μ : Sto) | exc (x : Exc) (μ : Sto) | bad
  deriving Inhabited
abbrev Fns := Nat → List SV → Sto → Res EV
abbrev SE := Fns → Env → Sto → Res EV
/-- a test -/
abbrev SB := Fns → Env → Sto → Res Bool
inductive SO where
  | nx (ρ : Env) | rt (v : EV) | bk (ρ : Env) | ct (ρ : Env)
  deriving Inhabited
abbrev SS := Fns → Env → Sto → Res SO

def Res.bind {α β : Type} (r : Res α) (f : α → Sto → Res β) : Res β := match r with
  | .ok a μ => f a μ
  | .exc x μ => .exc x μ
  | .bad => .bad

def CV.toD : CV → D
  | .lst ds => .lst ds
  | .dic ks ds => .dic ks ds
  | .dct ks ds => .dct ks ds
/-- what is seen of a value -/
def EV.see (v : EV) (μ : Sto) : Option D := match v with
  | .dat d => some d
  | .new c => some c.toD
  | .cel k => match μ[k]? with
    | some c => some c.val.toD
    | none => none
/-- made still, for ever -/
def EV.frz (v : EV) (μ : Sto) : Option (D × Sto) := match v with
  | .dat d => some (d, μ)
  | .new c => some (c.toD, μ)
  | .cel k => match μ[k]? with
    | some c => some (c.val.toD, μ.set k ⟨false, c.val⟩)
    | none => none
def frzs : List EV → Sto → Option (List D × Sto)
  | [], μ => some ([], μ)
  | v :: vs, μ => match v.frz μ with
    | some (d, μ1) => match frzs vs μ1 with
      | some (ds, μ2) => some (d :: ds, μ2)
      | none => none
    | none => none
def SV.ev : SV → EV
  | .dat d => .dat d
  | .cel k => .cel k

/-! ### 2. what stands for what -/
def TupN (_ : PySem.W.Frag) (L : Addr → Prop) (H : Hp) (a : Addr) (vs : List V) : Prop := H a = some (.tup vs) ∧ ¬ L a
section
variable (K : PySem.W.Frag) (L : Addr → Prop) (H : Hp)
def WrT (a : Addr) (vs : List V) : Prop := ∃ (o : Obj) (its : Array Value) (n : Nat), K.lookup a = some o ∧ o.cls = .type "tuple" ∧ o.data = .seq its n ∧ its.size ≤ sizeLine ∧ Vals vs its.toList
def WrL (a : Addr) (vs : List V) : Prop := ∃ (o : Obj) (its : Array Value) (n : Nat), K.lookup a = some o ∧ o.cls = .type "list" ∧ o.dict = none ∧ o.data = .seq its n ∧ its.size ≤ sizeLine ∧ Vals vs its.toList
def LstN (a : Addr) (vs : List V) : Prop := (Rd H a (.lst vs) ∧ ¬ L a) ∨ WrL K a vs
mutual
def Rep : D → V → Prop
  | .non, v => v = .non
  | .bl b, v => v = .bl b
  | .int i, v => v = .int i
  | .str x, v => v = .str x
  | .tup ds, v => ∃ a vs, v = .ref a ∧ TupN K L H a vs ∧ Reps ds vs
  | .lst ds, v => ∃ a vs, v = .ref a ∧ H a = some (.lst vs) ∧ ¬ L a ∧ Reps ds vs
  | .dic ks ds, v => ∃ a vs, v = .ref a ∧ Rd H a (.dK (ks.zip vs)) ∧ ¬ L a ∧ ks.length = ds.length ∧ Reps ds vs
  | .dct ks ds, v => ∃ a vs, v = .ref a ∧ H a = some (.dT (ks.zip vs)) ∧ ¬ L a ∧ ks.length = ds.length ∧ Reps ds vs
  | .scr ns, v => ∃ a, v = .ref a ∧ LstN K L H a (ns.map V.int)
def Reps : List D → List V → Prop
  | [], vs => vs = []
  | d :: ds, vs => ∃ v r, vs = v :: r ∧ Rep d v ∧ Reps ds r
end
end
section
variable {K : PySem.W.Frag} {L L' : Addr → Prop} {H H' : Hp}
theorem TupN.sq {a : Addr} {vs : List V} (h : TupN K L H a vs) : SqT K H a vs := .inl (.inl h.1)
theorem LstN.sq {a : Addr} {vs : List V} (h : LstN K L H a vs) : SqL K H a vs := by
  rcases h with h | h
  · exact .inl h.1
  · exact .inr h
/-- what does not live stays -/
def Mv (L : Addr → Prop) (H : Hp) (L' : Addr → Prop) (H' : Hp) : Prop := ∀ a o, H a = some o → ¬ L a → H' a = some o ∧ ¬ L' a
theorem rd_mv {a : Addr} {u : HO} (m : Mv L H L' H') (h : Rd H a u) (n : ¬ L a) : Rd H' a u ∧ ¬ L' a := by
  rcases h with h | ⟨o, h⟩
  · exact ⟨.inl (m a _ h n).1, (m a _ h n).2⟩
  · exact ⟨.inr ⟨o, (m a _ h n).1⟩, (m a _ h n).2⟩
theorem TupN.mv {a : Addr} {vs : List V} (m : Mv L H L' H') (h : TupN K L H a vs) : TupN K L' H' a vs := m a _ h.1 h.2
theorem LstN.mv {a : Addr} {vs : List V} (m : Mv L H L' H') (h : LstN K L H a vs) : LstN K L' H' a vs := by
  rcases h with ⟨h, n⟩ | h
  · exact .inl (rd_mv m h n)
  · exact .inr h
mutual
theorem Rep.mv (m : Mv L H L' H') : ∀ (d : D) (v : V), Rep K L H d v → Rep K L' H' d v
  | .non, v, h => by simpa only [Rep] using h
  | .bl _, v, h => by simpa only [Rep] using h
  | .int _, v, h => by simpa only [Rep] using h
  | .str _, v, h => by simpa only [Rep] using h
  | .tup ds, v, h => by
    simp only [Rep] at h ⊢
    obtain ⟨a, vs, e, t, r⟩ := h
    exact ⟨a, vs, e, t.mv m, Reps.mv m ds vs r⟩
  | .lst ds, v, h => by
    simp only [Rep] at h ⊢
    obtain ⟨a, vs, e, t, n, r⟩ := h
    exact ⟨a, vs, e, (m a _ t n).1, (m a _ t n).2, Reps.mv m ds vs r⟩
  | .scr ns, v, h => by
    simp only [Rep] at h ⊢
    obtain ⟨a, e, t⟩ := h
    exact ⟨a, e, t.mv m⟩
  | .dic ks ds, v, h => by
    simp only [Rep] at h ⊢
    obtain ⟨a, vs, e, t, n, l, r⟩ := h
    exact ⟨a, vs, e, (rd_mv m t n).1, (rd_mv m t n).2, l, Reps.mv m ds vs r⟩
  | .dct ks ds, v, h => by
    simp only [Rep] at h ⊢
    obtain ⟨a, vs, e, t, n, l, r⟩ := h
    exact ⟨a, vs, e, (m a _ t n).1, (m a _ t n).2, l, Reps.mv m ds vs r⟩
theorem Reps.mv (m : Mv L H L' H') : ∀ (ds : List D) (vs : List V), Reps K L H ds vs → Reps K L' H' ds vs
  | [], vs, h => by simpa only [Reps] using h
  | d :: ds, vs, h => by
    simp only [Reps] at h ⊢
    obtain ⟨v, r, e, h1, h2⟩ := h
    exact ⟨v, r, e, Rep.mv m d v h1, Reps.mv m ds r h2⟩
end
theorem Reps.len : ∀ {ds : List D} {vs : List V}, Reps K L H ds vs → vs.length = ds.length
  | [], vs, h => by
    have h : vs = [] := by simpa only [Reps] using h
    rw [h] <;> rfl
  | d :: ds, vs, h => by
    simp only [Reps] at h
    obtain ⟨v, r, e, h1, h2⟩ := h
    rw [e, List.length_cons, List.length_cons, Reps.len h2]
theorem Reps.nil : Reps K L H [] [] := by simp only [Reps]
theorem Reps.cons {d : D} {v : V} {ds : List D} {vs : List V} (h : Rep K L H d v) (t : Reps K L H ds vs) : Reps K L H (d :: ds) (v :: vs) := by
  simp only [Reps]
  exact ⟨v, vs, rfl, h, t⟩
theorem Reps.inv {d : D} {ds : List D} {vs : List V} (h : Reps K L H (d :: ds) vs) : ∃ v r, vs = v :: r ∧ Rep K L H d v ∧ Reps K L H ds r := by
  simpa only [Reps] using h
theorem Reps.invN {vs : List V} (h : Reps K L H [] vs) : vs = [] := by simpa only [Reps] using h
theorem Reps.app : ∀ {ds es : List D} {vs ws : List V}, Reps K L H ds vs → Reps K L H es ws → Reps K L H (ds ++ es) (vs ++ ws)
  | [], es, vs, ws, h, g => by
    rw [h.invN]; exact g
  | d :: ds, es, vs, ws, h, g => by
    obtain ⟨v, r, e, h1, h2⟩ := h.inv
    subst e
    exact Reps.cons h1 (Reps.app h2 g)
theorem Reps.get : ∀ {ds : List D} {vs : List V} {i : Nat} {d : D}, Reps K L H ds vs → ds[i]? = some d → ∃ v, vs[i]? = some v ∧ Rep K L H d v
  | [], vs, i, d, h, e => by simp at e
  | x :: ds, vs, 0, d, h, e => by
    obtain ⟨v, r, e1, h1, h2⟩ := h.inv
    subst e1
    simp at e; subst e
    exact ⟨v, rfl, h1⟩
  | x :: ds, vs, i + 1, d, h, e => by
    obtain ⟨v, r, e1, h1, h2⟩ := h.inv
    subst e1
    obtain ⟨w, q1, q2⟩ := Reps.get (i := i) h2 (by simpa using e)
    exact ⟨w, by simpa using q1, q2⟩
theorem Reps.get' : ∀ {ds : List D} {vs : List V} {i : Nat} {v : V}, Reps K L H ds vs → vs[i]? = some v → ∃ d, ds[i]? = some d ∧ Rep K L H d v
  | [], vs, i, d, h, e => by rw [h.invN] at e; simp at e
  | x :: ds, vs, 0, d, h, e => by
    obtain ⟨v, r, e1, h1, h2⟩ := h.inv
    subst e1
    simp at e; subst e
    exact ⟨x, rfl, h1⟩
  | x :: ds, vs, i + 1, d, h, e => by
    obtain ⟨v, r, e1, h1, h2⟩ := h.inv
    subst e1
    obtain ⟨w, q1, q2⟩ := Reps.get' (i := i) h2 (by simpa using e)
    exact ⟨w, by simpa using q1, q2⟩
theorem Reps.set : ∀ {ds : List D} {vs : List V} {d : D} {v : V} (i : Nat), Reps K L H ds vs → Rep K L H d v → Reps K L H (ds.set i d) (vs.set i v)
  | [], vs, d, v, i, h, g => by rw [h.invN]; exact Reps.nil
  | x :: ds, vs, d, v, 0, h, g => by
    obtain ⟨w, r, e1, h1, h2⟩ := h.inv
    subst e1
    exact Reps.cons g h2
  | x :: ds, vs, d, v, i + 1, h, g => by
    obtain ⟨w, r, e1, h1, h2⟩ := h.inv
    subst e1
    exact Reps.cons h1 (Reps.set i h2 g)
theorem Reps.take : ∀ {ds : List D} {vs : List V} (n : Nat), Reps K L H ds vs → Reps K L H (ds.take n) (vs.take n)
  | ds, vs, 0, h => by rw [List.take_zero, List.take_zero]; exact Reps.nil
  | [], vs, n + 1, h => by rw [h.invN]; exact Reps.nil
  | x :: ds, vs, n + 1, h => by
    obtain ⟨w, r, e1, h1, h2⟩ := h.inv
    subst e1
    exact Reps.cons h1 (Reps.take n h2)
theorem Reps.drop : ∀ {ds : List D} {vs : List V} (n : Nat), Reps K L H ds vs → Reps K L H (ds.drop n) (vs.drop n)
  | ds, vs, 0, h => h
  | [], vs, n + 1, h => by rw [h.invN]; exact Reps.nil
  | x :: ds, vs, n + 1, h => by
    obtain ⟨w, r, e1, h1, h2⟩ := h.inv
    subst e1
    exact Reps.drop n h2
theorem Reps.rev : ∀ {ds : List D} {vs : List V}, Reps K L H ds vs → Reps K L H ds.reverse vs.reverse
  | [], vs, h => by rw [h.invN]; exact Reps.nil
  | x :: ds, vs, h => by
    obtain ⟨w, r, e1, h1, h2⟩ := h.inv
    subst e1
    rw [List.reverse_cons, List.reverse_cons]
    exact Reps.app (Reps.rev h2) (Reps.cons h1 Reps.nil)
end

/-! ### 3. the store and the heap -/
/-- the live cells' addresses -/
def Cel (μ : Sto) (ι : List Addr) (a : Addr) : Prop := ∃ (k : Nat) (c : Cell), μ[k]? = some c ∧ c.live = true ∧ ι[k]? = some a
def Liv (Acc : Addr → Prop) (μ : Sto) (ι : List Addr) (a : Addr) : Prop := Cel μ ι a ∨ Acc a
def CvR (K : PySem.W.Frag) (L : Addr → Prop) (H : Hp) (c : CV) (a : Addr) : Prop := match c with
  | .lst ds => ∃ vs, H a = some (.lst vs) ∧ Reps K L H ds vs
  | .dic ks ds => ∃ vs, Rd H a (.dK (ks.zip vs)) ∧ ks.length = ds.length ∧ Reps K L H ds vs
  | .dct ks ds => ∃ vs, H a = some (.dT (ks.zip vs)) ∧ ks.length = ds.length ∧ Reps K L H ds vs
/-- no locked dict -/
def Hot (H : Hp) (a : Addr) : Prop := ∀ o kvs, H a ≠ some (.frz o (.dK kvs))
structure Sim (K : PySem.W.Frag) (Acc : Addr → Prop) (μ : Sto) (ι : List Addr) (H : Hp) : Prop where
  len : ι.length = μ.length
  nd : ι.Nodup
  acc : ∀ a, Acc a → a ∉ ι ∧ H a ≠ none
  cell : ∀ (k : Nat) (c : Cell), μ[k]? = some c → ∃ a, ι[k]? = some a ∧ CvR K (Liv Acc μ ι) H c.val a
  hot : ∀ a, Liv Acc μ ι a → Hot H a
/-- how a run goes on: from (ι, μ, H) to (ι', μ', H') -/
structure Stp (K : PySem.W.Frag) (Acc : Addr → Prop) (ι : List Addr) (μ : Sto) (H : Hp) (ι' : List Addr) (μ' : Sto) (H' : Hp) : Prop where
  sim : Sim K Acc μ' ι' H'
  pre : ∃ ex, ι' = ι ++ ex ∧ ∀ a ∈ ex, H a = none
  keep : ∀ a o, H a = some o → ¬ Cel μ ι a → H' a = some o
  trk : ∀ a, H a ≠ none → H' a ≠ none
  liv : ∀ a, Cel μ' ι' a → Cel μ ι a ∨ H a = none
def SvR (K : PySem.W.Frag) (L : Addr → Prop) (ι : List Addr) (H : Hp) (s : SV) (v : V) : Prop := match s with
  | .dat d => Rep K L H d v
  | .cel k => ∃ a, ι[k]? = some a ∧ v = .ref a
def EnvR (K : PySem.W.Frag) (L : Addr → Prop) (ι : List Addr) (H : Hp) (ρ : Env) (σ : L2.St) : Prop :=
  ρ.length = σ.length ∧ ∀ (i : Nat) s, ρ[i]? = some (some s) → ∃ v, σ[i]? = some (some v) ∧ SvR K L ι H s v
/-- H0: the heap ahead -/
def EvR (K : PySem.W.Frag) (L : Addr → Prop) (ι : List Addr) (H0 H : Hp) (e : EV) (v : V) : Prop := match e with
  | .dat d => Rep K L H d v
  | .cel k => ∃ a, ι[k]? = some a ∧ v = .ref a
  | .new c => ∃ p, v = .ref p ∧ H0 p = none ∧ CvR K L H c p
/-- a new object: nothing still leads to it -/
def OwnR (K : PySem.W.Frag) (Acc : Addr → Prop) (μ : Sto) (ι : List Addr) (H : Hp) (e : EV) (v : V) : Prop := match e with
  | .new c => ∀ p, v = .ref p → Sim K (fun a => Acc a ∨ a = p) μ ι H ∧ CvR K (Liv (fun a => Acc a ∨ a = p) μ ι) H c p
  | _ => True
def EvsR (K : PySem.W.Frag) (L : Addr → Prop) (ι : List Addr) (H0 H : Hp) : List EV → List V → Prop
  | [], vs => vs = []
  | e :: es, vs => ∃ v r, vs = v :: r ∧ EvR K L ι H0 H e v ∧ EvsR K L ι H0 H es r
/-- an exception: its class's address, its own dict's, what lies there -/
structure XI where
  cls : Nat → Addr
def ExcR (K : PySem.W.Frag) (XC : Nat → Addr) (L : Addr → Prop) (H0 H : Hp) (x : Exc) (c : Value) (da : Option Addr) : Prop :=
  c = .ref (XC x.cls) ∧ match da with
    | none => x.fs = []
    | some d => H0 d = none ∧ ∃ vs, H d = some (.xd ((x.fs.map (·.1)).zip vs)) ∧ Reps K L H (x.fs.map (·.2)) vs

section
variable {K : PySem.W.Frag} {Acc : Addr → Prop} {ι ι1 ι2 ι' : List Addr} {μ μ1 μ2 μ' : Sto} {H H0 H1 H2 H' : Hp}
theorem Cel.mem {a : Addr} (h : Cel μ ι a) : a ∈ ι := by
  obtain ⟨k, c, _, _, e⟩ := h
  exact List.mem_of_getElem? e
theorem CvR.trk {L : Addr → Prop} {c : CV} {a : Addr} (h : CvR K L H c a) : H a ≠ none := by
  cases c with
  | lst ds => obtain ⟨vs, e, _⟩ := h; rw [e]; simp
  | dic ks ds => obtain ⟨vs, e | ⟨o, e⟩, _⟩ := h <;> rw [e] <;> simp
  | dct ks ds => obtain ⟨vs, e, _⟩ := h; rw [e]; simp
theorem Sim.trk (S : Sim K Acc μ ι H) {a : Addr} (h : a ∈ ι) : H a ≠ none := by
  obtain ⟨k, hk⟩ := List.getElem?_of_mem h
  have hl : k < μ.length := by rw [← S.len]; exact (List.getElem?_eq_some_iff.mp hk).1
  obtain ⟨b, e, r⟩ := S.cell k _ (List.getElem?_eq_getElem hl)
  rw [hk] at e; cases e
  exact r.trk
theorem Sim.live_ne (S : Sim K Acc μ ι H) {a p : Addr} (h : Liv Acc μ ι a) (n : H p = none) : a ≠ p := by
  rintro rfl
  rcases h with h | h
  · exact S.trk h.mem n
  · exact (S.acc a h).2 n
theorem Stp.mv (t : Stp K Acc ι μ H ι' μ' H') (S : Sim K Acc μ ι H) : Mv (Liv Acc μ ι) H (Liv Acc μ' ι') H' := fun a o h n => by
  refine ⟨t.keep a o h fun z => n (.inl z), fun z => ?_⟩
  rcases z with z | z
  · rcases t.liv a z with z | z
    · exact n (.inl z)
    · rw [h] at z; cases z
  · exact n (.inr z)
theorem Stp.refl (S : Sim K Acc μ ι H) : Stp K Acc ι μ H ι μ H := ⟨S, ⟨[], by simp, by simp⟩, fun _ _ h _ => h, fun _ h => h, fun _ h => .inl h⟩
theorem Stp.back (t : Stp K Acc ι μ H ι' μ' H') {p : Addr} (h : H' p = none) : H p = none := by
  cases e : H p with
  | none => rfl
  | some o => exact absurd h (t.trk p (by rw [e]; simp))
theorem Stp.trans (a : Stp K Acc ι μ H ι1 μ1 H1) (b : Stp K Acc ι1 μ1 H1 ι2 μ2 H2) : Stp K Acc ι μ H ι2 μ2 H2 := by
  refine ⟨b.sim, ?_, fun x o h n => ?_, fun x h => b.trk x (a.trk x h), fun x h => ?_⟩
  · obtain ⟨e1, h1, n1⟩ := a.pre
    obtain ⟨e2, h2, n2⟩ := b.pre
    refine ⟨e1 ++ e2, by rw [h2, h1, List.append_assoc], fun x hx => ?_⟩
    rcases List.mem_append.mp hx with hx | hx
    · exact n1 x hx
    · exact a.back (n2 x hx)
  · refine b.keep x o (a.keep x o h n) fun z => ?_
    rcases a.liv x z with z | z
    · exact n z
    · rw [h] at z; cases z
  · rcases b.liv x h with z | z
    · exact a.liv x z
    · exact .inr (a.back z)
theorem Stp.get (t : Stp K Acc ι μ H ι' μ' H') {k : Nat} {a : Addr} (h : ι[k]? = some a) : ι'[k]? = some a := by
  obtain ⟨ex, e, _⟩ := t.pre
  rw [e, List.getElem?_append_left (List.getElem?_eq_some_iff.mp h).1]
  exact h
theorem CvR.mv {L L' : Addr → Prop} {c : CV} {a : Addr} (m : Mv L H L' H') (h : CvR K L H c a) (ha : ∀ o, H a = some o → H' a = some o) : CvR K L' H' c a := by
  cases c with
  | lst ds => obtain ⟨vs, e, r⟩ := h; exact ⟨vs, ha _ e, Reps.mv m _ _ r⟩
  | dic ks ds => obtain ⟨vs, e, l, r⟩ := h; exact ⟨vs, e.imp (ha _) (fun ⟨o, e⟩ => ⟨o, ha _ e⟩), l, Reps.mv m _ _ r⟩
  | dct ks ds => obtain ⟨vs, e, l, r⟩ := h; exact ⟨vs, ha _ e, l, Reps.mv m _ _ r⟩
theorem SvR.mv {s : SV} {v : V} (t : Stp K Acc ι μ H ι' μ' H') (S : Sim K Acc μ ι H) (h : SvR K (Liv Acc μ ι) ι H s v) : SvR K (Liv Acc μ' ι') ι' H' s v := by
  cases s with
  | dat d => exact Rep.mv (t.mv S) _ _ h
  | cel k => obtain ⟨a, e, r⟩ := h; exact ⟨a, t.get e, r⟩
theorem EnvR.mv {ρ : Env} {σ : L2.St} (t : Stp K Acc ι μ H ι' μ' H') (S : Sim K Acc μ ι H) (h : EnvR K (Liv Acc μ ι) ι H ρ σ) : EnvR K (Liv Acc μ' ι') ι' H' ρ σ :=
  ⟨h.1, fun i s e => let ⟨v, e1, r⟩ := h.2 i s e; ⟨v, e1, r.mv t S⟩⟩
/-- a value found by a step, carried over the next one -/
theorem EvR.mv {e : EV} {v : V} (a : Stp K Acc ι μ H ι1 μ1 H1) (S : Sim K Acc μ ι H) (b : Stp K Acc ι1 μ1 H1 ι2 μ2 H2) (h : EvR K (Liv Acc μ1 ι1) ι1 H H1 e v) (hi : ι1 = ι) : EvR K (Liv Acc μ2 ι2) ι2 H H2 e v := by
  subst hi
  cases e with
  | dat d => exact Rep.mv (b.mv a.sim) _ _ h
  | cel k => obtain ⟨x, e, r⟩ := h; exact ⟨x, b.get e, r⟩
  | new c =>
    obtain ⟨p, e, n, r⟩ := h
    refine ⟨p, e, n, r.mv (b.mv a.sim) fun o ho => b.keep p o ho fun z => ?_⟩
    exact S.trk z.mem n
theorem EvR.back {e : EV} {v : V} {L : Addr → Prop} (a : Stp K Acc ι μ H ι1 μ1 H1) (h : EvR K L ι2 H1 H2 e v) : EvR K L ι2 H H2 e v := by
  cases e with
  | dat d => exact h
  | cel k => exact h
  | new c => obtain ⟨p, e, n, r⟩ := h; exact ⟨p, e, a.back n, r⟩
end
end VM
/-! The readings by the interpreter, and the rules of plain expressions. -/
namespace VM
open PySem L2

/-! ### 1. readings -/
/-- what a run's outcome r asks of what follows; base: (ι, μ, H) ahead -/
def wp {α β : Type} (Rel : (Addr → Prop) → Sto → List Addr → Hp → Hp → α → β → Prop) (K : PySem.W.Frag) (XC : Nat → Addr) (W : WX) (Acc : Addr → Prop) (ι : List Addr) (μ : Sto) (H : Hp) (σ : L2.St) (r : Res α) (Q : β → Hp → Prop) : Prop := match r with
  | .ok a μ' => ∀ b H', Stp K Acc ι μ H ι μ' H' → Rel Acc μ' ι H H' a b → Q b H'
  | .exc x μ' => ∀ c d H', Stp K Acc ι μ H ι μ' H' → ExcR K XC (Liv Acc μ' ι) H H' x c d → W c d σ H'
  | .bad => False
/-- the relations used -/
abbrev relE (K : PySem.W.Frag) : (Addr → Prop) → Sto → List Addr → Hp → Hp → EV → V → Prop := fun Acc μ ι H H' e v => EvR K (Liv Acc μ ι) ι H H' e v ∧ OwnR K Acc μ ι H' e v
abbrev relB : (Addr → Prop) → Sto → List Addr → Hp → Hp → Bool → Bool → Prop := fun _ _ _ _ _ a b => b = a
abbrev relA (K : PySem.W.Frag) : (Addr → Prop) → Sto → List Addr → Hp → Hp → List EV → List V → Prop := fun Acc μ ι H H' e v => EvsR K (Liv Acc μ ι) ι H H' e v
/-- parts of a slice -/
abbrev relO : (Addr → Prop) → Sto → List Addr → Hp → Hp → Option Int → Option Int → Prop := fun _ _ _ _ _ a b => b = a
abbrev SA := Fns → Env → Sto → Res (List EV)
abbrev SOp := Fns → Env → Sto → Res (Option Int)

section
variable (K : PySem.W.Frag) (XC : Nat → Addr) (F : Fns) (W : WX)
def rd {α β : Type} (Rel : (Addr → Prop) → Sto → List Addr → Hp → Hp → α → β → Prop) (f : Fns → Env → Sto → Res α) (σ : L2.St) (H : Hp) (Q : β → Hp → Prop) : Prop :=
  ∃ (Acc : Addr → Prop) (ι : List Addr) (ρ : Env) (μ : Sto), Sim K Acc μ ι H ∧ EnvR K (Liv Acc μ ι) ι H ρ σ ∧ wp Rel K XC W Acc ι μ H σ (f F ρ μ) Q
abbrev rdE (f : SE) : TE := fun σ H Q => rd K XC F W (relE K) f σ H Q
abbrev rdB (f : SB) : TT := fun σ H Q => rd K XC F W relB f σ H Q
abbrev rdA (f : SA) : TA := fun σ H Q => rd K XC F W (relA K) f σ H Q
abbrev rdO (f : SOp) : TO := fun σ H Q => rd K XC F W relO f σ H Q
end

section
variable {K : PySem.W.Frag} {XC : Nat → Addr} {F : Fns} {W : WX} {Acc : Addr → Prop} {ι ι1 ι2 : List Addr} {μ μ1 μ2 : Sto} {H H0 H1 H2 : Hp} {σ : L2.St}
theorem EvsR.back {L : Addr → Prop} {ι' : List Addr} {μ' : Sto} : ∀ {es : List EV} {vs : List V}, Stp K Acc ι μ H ι' μ' H1 → EvsR K L ι2 H1 H2 es vs → EvsR K L ι2 H H2 es vs
  | [], vs, a, h => h
  | e :: es, vs, a, h => by
    obtain ⟨v, r, e1, h1, h2⟩ := h
    exact ⟨v, r, e1, EvR.back a h1, EvsR.back a h2⟩
theorem EvsR.mv : ∀ {es : List EV} {vs : List V}, Stp K Acc ι μ H ι μ1 H1 → Sim K Acc μ ι H → Stp K Acc ι μ1 H1 ι μ2 H2 → EvsR K (Liv Acc μ1 ι) ι H H1 es vs → EvsR K (Liv Acc μ2 ι) ι H H2 es vs
  | [], vs, a, S, b, h => h
  | e :: es, vs, a, S, b, h => by
    obtain ⟨v, r, e1, h1, h2⟩ := h
    exact ⟨v, r, e1, EvR.mv a S b h1 rfl, EvsR.mv a S b h2⟩
/-- what carries back a relation to an earlier base -/
class Back {α β : Type} (Rel : (Addr → Prop) → Sto → List Addr → Hp → Hp → α → β → Prop) (K : PySem.W.Frag) : Prop where
  back : ∀ {Acc : Addr → Prop} {ι ι' ι2 : List Addr} {μ μ' : Sto} {H H1 H2 : Hp} {Acc2 : Addr → Prop} {μ2 : Sto} {a : α} {b : β}, Stp K Acc ι μ H ι' μ' H1 → Rel Acc2 μ2 ι2 H1 H2 a b → Rel Acc2 μ2 ι2 H H2 a b
instance : Back (relE K) K := ⟨fun s h => ⟨EvR.back s h.1, h.2⟩⟩
instance : Back (relA K) K := ⟨fun s h => EvsR.back s h⟩
instance : Back relB K := ⟨fun _ h => h⟩
instance : Back relO K := ⟨fun _ h => h⟩
theorem ExcR.back {L : Addr → Prop} {ι' : List Addr} {μ' : Sto} {x : Exc} {c : Value} {d : Option Addr} (a : Stp K Acc ι μ H ι' μ' H1) (h : ExcR K XC L H1 H2 x c d) : ExcR K XC L H H2 x c d := by
  refine ⟨h.1, ?_⟩
  have h2 := h.2
  cases d with
  | none => exact h2
  | some d => exact ⟨a.back h2.1, h2.2⟩
/-- a run's wish, asked from a later base -/
theorem wp.shift {α β : Type} {Rel : (Addr → Prop) → Sto → List Addr → Hp → Hp → α → β → Prop} [Back Rel K] {r : Res α} {Q : β → Hp → Prop} (t : Stp K Acc ι μ H ι μ1 H1) (h : wp Rel K XC W Acc ι μ H σ r Q) : wp Rel K XC W Acc ι μ1 H1 σ r Q := by
  cases r with
  | ok a μ' => exact fun b H' t' rl => h b H' (t.trans t') (Back.back t rl)
  | exc x μ' => exact fun c d H' t' rl => h c d H' (t.trans t') (rl.back t)
  | bad => exact h
theorem wp.imp {α β : Type} {Rel : (Addr → Prop) → Sto → List Addr → Hp → Hp → α → β → Prop} {r : Res α} {Q Q' : β → Hp → Prop} (h : wp Rel K XC W Acc ι μ H σ r Q) (q : ∀ b H', Q b H' → Q' b H') : wp Rel K XC W Acc ι μ H σ r Q' := by
  cases r with
  | ok a μ' => exact fun b H' t' rl => q _ _ (h b H' t' rl)
  | exc x μ' => exact h
  | bad => exact h
/-- one run, then another: the first reading; the wish is told from an earlier base -/
theorem rd.bind {α β γ δ : Type} {Rel : (Addr → Prop) → Sto → List Addr → Hp → Hp → α → β → Prop} {Rel2 : (Addr → Prop) → Sto → List Addr → Hp → Hp → γ → δ → Prop} {f : Fns → Env → Sto → Res α} {ρ : Env} {g : α → Sto → Res γ} {Q : δ → Hp → Prop} {P : β → Hp → Prop}
    (t : Stp K Acc ι μ1 H1 ι μ H) (E : EnvR K (Liv Acc μ ι) ι H ρ σ) (h : wp Rel2 K XC W Acc ι μ1 H1 σ ((f F ρ μ).bind g) Q)
    (k : ∀ a μ' b H', f F ρ μ = .ok a μ' → Stp K Acc ι μ H ι μ' H' → Rel Acc μ' ι H H' a b → wp Rel2 K XC W Acc ι μ1 H1 σ (g a μ') Q → P b H') : rd K XC F W Rel f σ H P := by
  refine ⟨Acc, ι, ρ, μ, t.sim, E, ?_⟩
  cases e : f F ρ μ with
  | ok a μ' => rw [e] at h; exact fun b H' t' rl => k a μ' b H' e t' rl h
  | exc x μ' => rw [e] at h; exact fun c d H' t' rl => h c d H' (t.trans t') (rl.back t)
  | bad => rw [e] at h; exact h
/-- the last run -/
theorem rd.last {α β : Type} {Rel : (Addr → Prop) → Sto → List Addr → Hp → Hp → α → β → Prop} [Back Rel K] {f : Fns → Env → Sto → Res α} {ρ : Env} {Q : β → Hp → Prop}
    (t : Stp K Acc ι μ1 H1 ι μ H) (E : EnvR K (Liv Acc μ ι) ι H ρ σ) (h : wp Rel K XC W Acc ι μ1 H1 σ (f F ρ μ) Q) : rd K XC F W Rel f σ H Q := ⟨Acc, ι, ρ, μ, t.sim, E, wp.shift t h⟩
end

theorem PEimp {X : Cx} {e : Expr} {t t' : TE} (h : PE X e t) (i : ∀ σ H Q, t' σ H Q → t σ H Q) : PE X e t' := ⟨fun pins s σ H Q I q => h.run pins s σ H Q I (i σ H Q q)⟩
theorem PTimp {X : Cx} {e : Expr} {t t' : TT} (h : PT X e t) (i : ∀ σ H Q, t' σ H Q → t σ H Q) : PT X e t' := ⟨fun pins s σ H Q I q => h.run pins s σ H Q I (i σ H Q q)⟩
theorem PWimp {X : Cx} {e : Expr} {t t' : TT} (h : PW X e t) (i : ∀ σ H Q, t' σ H Q → t σ H Q) : PW X e t' := ⟨fun wh pins s σ H Q I q => h.run wh pins s σ H Q I (i σ H Q q)⟩
theorem PAimp {X : Cx} {e : List Expr} {t t' : TA} (h : PA X e t) (i : ∀ σ H Q, t' σ H Q → t σ H Q) : PA X e t' := ⟨fun pos pins s σ H Q I q => h.run pos pins s σ H Q I (i σ H Q q)⟩
theorem PSimp {X : Cx} {e : Stmt} {t t' : TS} (h : PS X e t) (i : ∀ D σ H, t' D σ H → t D σ H) : PS X e t' := ⟨fun pins s σ H D I q => h.run pins s σ H D I (i D σ H q)⟩
theorem PSsimp {X : Cx} {e : List Stmt} {t t' : TS} (h : PSs X e t) (i : ∀ D σ H, t' D σ H → t D σ H) : PSs X e t' := ⟨fun pins s σ H D I q => h.run pins s σ H D I (i D σ H q)⟩

/-! ### 2. new objects, views -/
section
variable {K : PySem.W.Frag} {Acc : Addr → Prop} {ι : List Addr} {μ : Sto} {H : Hp}
theorem Sim.up (S : Sim K Acc μ ι H) {p : Addr} (n : H p = none) (o : HO) : Stp K Acc ι μ H ι μ (upd H p o) := by
  have kp : ∀ a u, H a = some u → upd H p o a = some u := fun a u e => by rw [upd_ne (ne_of_none e n)]; exact e
  have m : Mv (Liv Acc μ ι) H (Liv Acc μ ι) (upd H p o) := fun a u e l => ⟨kp a u e, l⟩
  refine ⟨⟨S.len, S.nd, fun a h => ⟨(S.acc a h).1, ?_⟩, fun k c e => ?_, fun a h o' kvs => by rw [upd_ne (S.live_ne h n)]; exact S.hot a h o' kvs⟩, ⟨[], by simp, by simp⟩, fun a u e _ => kp a u e, fun a h => ?_, fun a h => .inl h⟩
  · cases e : H a with
    | none => exact absurd e (S.acc a h).2
    | some u => rw [kp a u e]; simp
  · obtain ⟨a, e1, r⟩ := S.cell k c e
    exact ⟨a, e1, r.mv m fun u e => kp a u e⟩
  · cases e : H a with
    | none => exact absurd e h
    | some u => rw [kp a u e]; simp
theorem Sim.noLive (S : Sim K Acc μ ι H) {p : Addr} (n : H p = none) : ¬ Liv Acc μ ι p := fun h => S.live_ne h n rfl
/-- a new tuple -/
theorem Sim.newT (S : Sim K Acc μ ι H) {p : Addr} (n : H p = none) {ds : List D} {vs : List V} (r : Reps K (Liv Acc μ ι) H ds vs) : Rep K (Liv Acc μ ι) (upd H p (.tup vs)) (.tup ds) (.ref p) := by
  simp only [Rep]
  exact ⟨p, vs, rfl, ⟨upd_same, S.noLive n⟩, Reps.mv ((S.up n _).mv S) _ _ r⟩
theorem Sim.newL (S : Sim K Acc μ ι H) {p : Addr} (n : H p = none) {ds : List D} {vs : List V} (r : Reps K (Liv Acc μ ι) H ds vs) : CvR K (Liv Acc μ ι) (upd H p (.lst vs)) (.lst ds) p :=
  ⟨vs, upd_same, Reps.mv ((S.up n _).mv S) _ _ r⟩
/-- one more that must not be touched -/
theorem Sim.more (S : Sim K Acc μ ι H) {p : Addr} (n : H p = none) (o : HO) (ho : ∀ o' kvs, o ≠ .frz o' (.dK kvs) := by intro _ _ z; cases z) : Sim K (fun a => Acc a ∨ a = p) μ ι (upd H p o) := by
  have t := S.up n o
  have m : Mv (Liv Acc μ ι) H (Liv (fun a => Acc a ∨ a = p) μ ι) (upd H p o) := fun a u e l => by
    refine ⟨by rw [upd_ne (ne_of_none e n)]; exact e, fun z => ?_⟩
    rcases z with z | z | z
    · exact l (.inl z)
    · exact l (.inr z)
    · subst z; rw [n] at e; cases e
  refine ⟨S.len, S.nd, fun a h => ?_, fun k c e => ?_, fun a h o' kvs => ?_⟩
  rotate_left 2
  · rcases h with h | h | rfl
    · exact t.sim.hot a (.inl h) o' kvs
    · exact t.sim.hot a (.inr h) o' kvs
    · rw [upd_same]; exact fun z => ho o' kvs (by cases z; rfl)
  · rcases h with h | rfl
    · exact t.sim.acc a h
    · exact ⟨fun z => S.trk z n, by rw [upd_same]; simp⟩
  · obtain ⟨a, e1, r⟩ := S.cell k c e
    exact ⟨a, e1, r.mv m fun u hu => by rw [upd_ne (ne_of_none hu n)]; exact hu⟩
theorem Sim.mvMore (S : Sim K Acc μ ι H) {p : Addr} (n : H p = none) (o : HO) : Mv (Liv Acc μ ι) H (Liv (fun a => Acc a ∨ a = p) μ ι) (upd H p o) := fun a u e l => by
  refine ⟨by rw [upd_ne (ne_of_none e n)]; exact e, fun z => ?_⟩
  rcases z with z | z | z
  · exact l (.inl z)
  · exact l (.inr z)
  · subst z; rw [n] at e; cases e
theorem Sim.ownN (S : Sim K Acc μ ι H) {p : Addr} (n : H p = none) {ds : List D} {vs : List V} (r : Reps K (Liv Acc μ ι) H ds vs) : OwnR K Acc μ ι (upd H p (.lst vs)) (.new (.lst ds)) (.ref p) := fun q e => by
  cases e
  exact ⟨S.more n _, vs, upd_same, Reps.mv (S.mvMore n _) _ _ r⟩
theorem Sim.ownD (S : Sim K Acc μ ι H) {p : Addr} (n : H p = none) {ks : List Key} {ds : List D} {vs : List V} (l : ks.length = ds.length) (r : Reps K (Liv Acc μ ι) H ds vs) : OwnR K Acc μ ι (upd H p (.dK (ks.zip vs))) (.new (.dic ks ds)) (.ref p) := fun q e => by
  cases e
  exact ⟨S.more n _, vs, .inl upd_same, l, Reps.mv (S.mvMore n _) _ _ r⟩
theorem Sim.ownDT (S : Sim K Acc μ ι H) {p : Addr} (n : H p = none) {ks : List (List Key)} {ds : List D} {vs : List V} (l : ks.length = ds.length) (r : Reps K (Liv Acc μ ι) H ds vs) : OwnR K Acc μ ι (upd H p (.dT (ks.zip vs))) (.new (.dct ks ds)) (.ref p) := fun q e => by
  cases e
  exact ⟨S.more n _, vs, upd_same, l, Reps.mv (S.mvMore n _) _ _ r⟩
/-- what a value is seen as: a value with the content of a cell too -/
def SeeR (K : PySem.W.Frag) (L : Addr → Prop) (H : Hp) (d : D) (v : V) : Prop := match d with
  | .lst ds => ∃ a vs, v = .ref a ∧ H a = some (.lst vs) ∧ Reps K L H ds vs
  | .dic ks ds => ∃ a vs, v = .ref a ∧ Rd H a (.dK (ks.zip vs)) ∧ ks.length = ds.length ∧ Reps K L H ds vs
  | .dct ks ds => ∃ a vs, v = .ref a ∧ H a = some (.dT (ks.zip vs)) ∧ ks.length = ds.length ∧ Reps K L H ds vs
  | d => Rep K L H d v
theorem SeeR.of {L : Addr → Prop} {d : D} {v : V} (h : Rep K L H d v) : SeeR K L H d v := by
  cases d with
  | lst ds => simp only [Rep] at h; obtain ⟨a, vs, e, t, n, r⟩ := h; exact ⟨a, vs, e, t, r⟩
  | dic ks ds => simp only [Rep] at h; obtain ⟨a, vs, e, t, n, l, r⟩ := h; exact ⟨a, vs, e, t, l, r⟩
  | dct ks ds => simp only [Rep] at h; obtain ⟨a, vs, e, t, n, l, r⟩ := h; exact ⟨a, vs, e, t, l, r⟩
  | _ => exact h
theorem SeeR.ofC {L : Addr → Prop} {c : CV} {a : Addr} (h : CvR K L H c a) : SeeR K L H c.toD (.ref a) := by
  cases c with
  | lst ds => obtain ⟨vs, e, r⟩ := h; exact ⟨a, vs, rfl, e, r⟩
  | dic ks ds => obtain ⟨vs, e, l, r⟩ := h; exact ⟨a, vs, rfl, e, l, r⟩
  | dct ks ds => obtain ⟨vs, e, l, r⟩ := h; exact ⟨a, vs, rfl, e, l, r⟩
theorem see_ok {H0 : Hp} {e : EV} {d : D} {v : V} (S : Sim K Acc μ ι H) (r : EvR K (Liv Acc μ ι) ι H0 H e v) (h : e.see μ = some d) : SeeR K (Liv Acc μ ι) H d v := by
  cases e with
  | dat x => cases h; exact .of r
  | new c => cases h; obtain ⟨p, e, n, r⟩ := r; subst e; exact .ofC r
  | cel k =>
    obtain ⟨a, e, ev⟩ := r
    subst ev
    simp only [EV.see] at h
    cases hc : μ[k]? with
    | none => rw [hc] at h; cases h
    | some c =>
      rw [hc] at h
      cases h
      obtain ⟨b, e1, r⟩ := S.cell k c hc
      rw [e] at e1; cases e1
      exact .ofC r
end

/-! ### 3. names, constants -/
section
variable {K : PySem.W.Frag} {L : Addr → Prop} {H : Hp}
theorem rep_int {i : Int} : Rep K L H (.int i) (.int i) := by simp only [Rep]
theorem rep_bl {i : Bool} : Rep K L H (.bl i) (.bl i) := by simp only [Rep]
theorem rep_non : Rep K L H .non .non := by simp only [Rep]
theorem rep_str {x : Str} : Rep K L H (.str x) (.str x) := by simp only [Rep]
end
def eC (d : D) : SE := fun _ _ μ => .ok (.dat d) μ
def eV (i : Nat) : SE := fun _ ρ μ => match ρ[i]? with
  | some (some s) => .ok s.ev μ
  | _ => .bad
section
variable {X : Cx} {XC : Nat → Addr} {F : Fns} {W : WX}
theorem c_int {i : Int} {j pos} : PE X (.Constant (.int i) j pos) (rdE X.K XC F W (eC (.int i))) := PEimp pe_int fun σ H Q ⟨Acc, ι, ρ, μ, S, E, h⟩ =>
  h (V.int i) H (.refl S) ⟨rfl, trivial⟩
theorem c_bl {i : Bool} {j pos} : PE X (.Constant (.bool i) j pos) (rdE X.K XC F W (eC (.bl i))) := PEimp pe_bl fun σ H Q ⟨Acc, ι, ρ, μ, S, E, h⟩ =>
  h (V.bl i) H (.refl S) ⟨rfl, trivial⟩
theorem c_non {j pos} : PE X (.Constant .none j pos) (rdE X.K XC F W (eC .non)) := PEimp pe_non fun σ H Q ⟨Acc, ι, ρ, μ, S, E, h⟩ =>
  h (V.non) H (.refl S) ⟨rfl, trivial⟩
theorem c_str {x : Str} {j pos} : PE X (.Constant (.str x) j pos) (rdE X.K XC F W (eC (.str x))) := PEimp pe_str fun σ H Q ⟨Acc, ι, ρ, μ, S, E, h⟩ =>
  h (V.str x) H (.refl S) ⟨rfl, trivial⟩
theorem SvR.ev {K : PySem.W.Frag} {L : Addr → Prop} {ι : List Addr} {H0 H : Hp} {s : SV} {v : V} (h : SvR K L ι H s v) : EvR K L ι H0 H s.ev v := by
  cases s with
  | dat d => exact h
  | cel k => exact h
theorem SV.own {K : PySem.W.Frag} {Acc : Addr → Prop} {μ : Sto} {ι : List Addr} {H : Hp} (s : SV) {v : V} : OwnR K Acc μ ι H s.ev v := by
  cases s <;> trivial
theorem c_var {i : Nat} {x : Str} {pos : Pos} (hN : X.N[i]? = some x) (hv : Vis X.env.scope x) (hd : (x == ("__debug__" : Str)) = false) (hcd : (x == ("__classdict__" : Str)) = false) : PE X (.Name x pos) (rdE X.K XC F W (eV i)) :=
  PEimp (pe_var hN hv hd hcd) fun σ H Q ⟨Acc, ι, ρ, μ, S, E, h⟩ => by
    unfold eV at h
    cases e : ρ[i]? with
    | none => rw [e] at h; exact h.elim
    | some o =>
      cases o with
      | none => rw [e] at h; exact h.elim
      | some s =>
        rw [e] at h
        obtain ⟨v, e1, r⟩ := E.2 i s e
        exact ⟨v, e1, h v H (Stp.refl S) ⟨r.ev, s.own⟩⟩
/-- a constant of the module -/
theorem c_glob {x : Str} {v : V} {u : Value} {d : D} {pos : Pos} (hg : Gl X x) (hm : X.mg x = some u) (r : RelV v u) (rp : ∀ L H, Rep X.K L H d v) (hd : (x == ("__debug__" : Str)) = false) : PE X (.Name x pos) (rdE X.K XC F W (eC d)) :=
  PEimp (pe_glob hg hm r hd) fun σ H Q ⟨Acc, ι, ρ, μ, S, E, h⟩ => h v H (.refl S) ⟨rp _ _, trivial⟩
end

/-! ### 4. argument lists, displays -/
def evs : List SE → SA
  | [] => fun _ _ μ => .ok [] μ
  | f :: fs => fun F ρ μ => (f F ρ μ).bind fun v μ1 => (evs fs F ρ μ1).bind fun vs μ2 => .ok (v :: vs) μ2
def LIM : Nat := 1000000
theorem lim_ok {n : Nat} (h : n ≤ LIM) : n ≤ sizeLine := Nat.le_trans h (by decide)
def eTup (f : SA) : SE := fun F ρ μ => (f F ρ μ).bind fun vs μ1 => match frzs vs μ1 with
  | some (ds, μ2) => if ds.length ≤ LIM then .ok (.dat (.tup ds)) μ2 else .bad
  | none => .bad
def eLst (f : SA) : SE := fun F ρ μ => (f F ρ μ).bind fun vs μ1 => match frzs vs μ1 with
  | some (ds, μ2) => if ds.length ≤ LIM then .ok (.new (.lst ds)) μ2 else .bad
  | none => .bad
section
variable {K : PySem.W.Frag} {Acc : Addr → Prop} {ι : List Addr} {μ μ' : Sto} {H H0 : Hp}
/-- a cell is made still -/
theorem Sim.still (S : Sim K Acc μ ι H) {k : Nat} {c : Cell} (hc : μ[k]? = some c) : Stp K Acc ι μ H ι (μ.set k ⟨false, c.val⟩) H ∧ ∀ a, ι[k]? = some a → ¬ Liv Acc (μ.set k ⟨false, c.val⟩) ι a := by
  have hk : k < μ.length := (List.getElem?_eq_some_iff.mp hc).1
  have cl : ∀ a, Cel (μ.set k ⟨false, c.val⟩) ι a → Cel μ ι a := fun a ⟨j, c', e, l, h⟩ => by
    by_cases hj : k = j
    · subst hj
      rw [List.getElem?_set_self hk] at e
      cases e; cases l
    · rw [List.getElem?_set_ne hj] at e
      exact ⟨j, c', e, l, h⟩
  have m : Mv (Liv Acc μ ι) H (Liv Acc (μ.set k ⟨false, c.val⟩) ι) H := fun a o e n => ⟨e, fun z => n (z.elim (fun z => .inl (cl a z)) .inr)⟩
  refine ⟨⟨⟨by rw [List.length_set]; exact S.len, S.nd, S.acc, fun j c' e => ?_, fun a h => S.hot a (h.elim (fun z => .inl (cl a z)) .inr)⟩, ⟨[], by simp, by simp⟩, fun a o e _ => e, fun a h => h, fun a h => .inl (cl a h)⟩, fun a ha z => ?_⟩
  · by_cases hj : k = j
    · subst hj
      rw [List.getElem?_set_self hk] at e
      cases e
      obtain ⟨a, e1, r⟩ := S.cell k c hc
      exact ⟨a, e1, r.mv m fun _ e => e⟩
    · rw [List.getElem?_set_ne hj] at e
      obtain ⟨a, e1, r⟩ := S.cell j c' e
      exact ⟨a, e1, r.mv m fun _ e => e⟩
  · rcases z with ⟨j, c', e, l, h⟩ | z
    · by_cases hj : k = j
      · subst hj
        rw [List.getElem?_set_self hk] at e
        cases e; cases l
      · have hi : k < ι.length := (List.getElem?_eq_some_iff.mp ha).1
        have : k = j := (List.getElem?_inj hi S.nd).mp (ha.trans h.symm)
        exact hj this
    · exact (S.acc a z).1 (List.mem_of_getElem? ha)
theorem CvR.rep {L : Addr → Prop} {c : CV} {a : Addr} (h : CvR K L H c a) (n : ¬ L a) : Rep K L H c.toD (.ref a) := by
  cases c with
  | lst ds => obtain ⟨vs, e, r⟩ := h; simp only [CV.toD, Rep]; exact ⟨a, vs, rfl, e, n, r⟩
  | dic ks ds => obtain ⟨vs, e, l, r⟩ := h; simp only [CV.toD, Rep]; exact ⟨a, vs, rfl, e, n, l, r⟩
  | dct ks ds => obtain ⟨vs, e, l, r⟩ := h; simp only [CV.toD, Rep]; exact ⟨a, vs, rfl, e, n, l, r⟩
theorem frz_ok {e : EV} {d : D} {v : V} {Hb : Hp} (S : Sim K Acc μ ι H) (hb : ∀ a ∈ ι, Hb a ≠ none) (hq : ∀ a, Acc a → Hb a ≠ none) (r : EvR K (Liv Acc μ ι) ι Hb H e v) (h : e.frz μ = some (d, μ')) :
    Stp K Acc ι μ H ι μ' H ∧ Rep K (Liv Acc μ' ι) H d v := by
  cases e with
  | dat x => cases h; exact ⟨.refl S, r⟩
  | new c =>
    cases h
    obtain ⟨p, e, n, r⟩ := r
    subst e
    refine ⟨.refl S, r.rep fun z => ?_⟩
    rcases z with z | z
    · exact hb p z.mem n
    · exact hq p z n
  | cel k =>
    obtain ⟨a, e, ev⟩ := r
    subst ev
    simp only [EV.frz] at h
    cases hc : μ[k]? with
    | none => rw [hc] at h; cases h
    | some c =>
      rw [hc] at h
      cases h
      obtain ⟨st, nl⟩ := S.still hc
      obtain ⟨b, e1, r⟩ := st.sim.cell k ⟨false, c.val⟩ (List.getElem?_set_self (List.getElem?_eq_some_iff.mp hc).1)
      rw [e] at e1; cases e1
      exact ⟨st, r.rep (nl a e)⟩
end
section
variable {K : PySem.W.Frag} {Acc : Addr → Prop} {ι : List Addr} {H Hb : Hp}
theorem EvsR.stay {μ μ' : Sto} (S : Sim K Acc μ ι H) (hb : ∀ a ∈ ι, Hb a ≠ none) (t : Stp K Acc ι μ H ι μ' H) : ∀ {es : List EV} {vs : List V}, EvsR K (Liv Acc μ ι) ι Hb H es vs → EvsR K (Liv Acc μ' ι) ι Hb H es vs
  | [], vs, h => h
  | e :: es, vs, h => by
    obtain ⟨v, r, e1, h1, h2⟩ := h
    refine ⟨v, r, e1, ?_, EvsR.stay S hb t h2⟩
    cases e with
    | dat d => exact Rep.mv (t.mv S) _ _ h1
    | cel k => exact h1
    | new c => obtain ⟨p, e, n, r⟩ := h1; exact ⟨p, e, n, r.mv (t.mv S) fun o ho => ho⟩
theorem frzs_ok : ∀ {es : List EV} {ds : List D} {vs : List V} {μ μ' : Sto}, Sim K Acc μ ι H → (∀ a ∈ ι, Hb a ≠ none) → (∀ a, Acc a → Hb a ≠ none) → EvsR K (Liv Acc μ ι) ι Hb H es vs → frzs es μ = some (ds, μ') →
    Stp K Acc ι μ H ι μ' H ∧ Reps K (Liv Acc μ' ι) H ds vs
  | [], ds, vs, μ, μ', S, hb, hq, r, h => by
    cases h
    have r : vs = [] := r
    subst r
    exact ⟨.refl S, Reps.nil⟩
  | e :: es, ds, vs, μ, μ', S, hb, hq, r, h => by
    obtain ⟨v, rs, e1, h1, h2⟩ := r
    subst e1
    unfold frzs at h
    cases hf : e.frz μ with
    | none => rw [hf] at h; cases h
    | some p =>
      obtain ⟨d, μ1⟩ := p
      rw [hf] at h
      simp only at h
      cases hg : frzs es μ1 with
      | none => rw [hg] at h; cases h
      | some q =>
        obtain ⟨ds', μ2⟩ := q
        rw [hg] at h
        cases h
        obtain ⟨t1, r1⟩ := frz_ok S hb hq h1 hf
        obtain ⟨t2, r2⟩ := frzs_ok t1.sim hb hq (h2.stay S hb t1) hg
        exact ⟨t1.trans t2, Reps.cons (Rep.mv (t2.mv t1.sim) _ _ r1) r2⟩
theorem Sim.accT {μ : Sto} (S : Sim K Acc μ ι H) : ∀ a, Acc a → H a ≠ none := fun a h => (S.acc a h).2
end
section
variable {X : Cx} {XC : Nat → Addr} {F : Fns} {W : WX} {e : Expr} {es : List Expr} {f : SE} {fs : List SE} {pos : Pos}
theorem ca_nil : PA X [] (rdA X.K XC F W (evs [])) := PAimp pa_nil fun σ H Q ⟨Acc, ι, ρ, μ, S, E, h⟩ => h [] H (.refl S) rfl
theorem ca_cons (ha : PE X e (rdE X.K XC F W f)) (hr : PA X es (rdA X.K XC F W (evs fs))) (hs : starEach (e :: es) X.env = (false, eval e X.env) :: starEach es X.env) : PA X (e :: es) (rdA X.K XC F W (evs (f :: fs))) :=
  PAimp (pa_cons ha hr hs) fun σ H Q ⟨Acc, ι, ρ, μ, S, E, h⟩ => by
    refine rd.bind (.refl S) E h fun v μ1 x H1 _ t1 r1 h1 => ?_
    refine rd.bind t1 (E.mv t1 S) h1 fun vs μ2 xs H2 _ t2 r2 h2 => ?_
    exact h2 (x :: xs) H2 (t1.trans t2) ⟨x, xs, rfl, EvR.mv t1 S t2 r1.1 rfl, EvsR.back t1 r2⟩

theorem c_tup {x1 : Nat} {fa : SA} (h : PA X es (rdA X.K XC F W fa)) : PE X (.Tuple es x1 pos) (rdE X.K XC F W (eTup fa)) :=
  PEimp (pe_tup h) fun σ H Q ⟨Acc, ι, ρ, μ, S, E, h⟩ => by
    refine rd.bind (.refl S) E h fun vs μ1 xs H1 _ t1 r1 h1 => ?_
    cases hf : frzs vs μ1 with
    | none => rw [hf] at h1; exact h1.elim
    | some p =>
      obtain ⟨ds, μ2⟩ := p
      rw [hf] at h1
      simp only at h1
      obtain ⟨t2, r2⟩ := frzs_ok t1.sim (fun a ha => S.trk ha) S.accT r1 hf
      by_cases hl : ds.length ≤ LIM
      · rw [if_pos hl] at h1
        refine ⟨by rw [r2.len]; exact lim_ok hl, fun p hp => h1 (.ref p) _ (t1.trans (t2.trans (t2.sim.up hp _))) ⟨t2.sim.newT hp r2, trivial⟩⟩
      · rw [if_neg hl] at h1; exact h1.elim
theorem c_lst {fa : SA} (h : PA X es (rdA X.K XC F W fa)) : PE X (.List es pos) (rdE X.K XC F W (eLst fa)) :=
  PEimp (pe_lst h) fun σ H Q ⟨Acc, ι, ρ, μ, S, E, h⟩ => by
    refine rd.bind (.refl S) E h fun vs μ1 xs H1 _ t1 r1 h1 => ?_
    cases hf : frzs vs μ1 with
    | none => rw [hf] at h1; exact h1.elim
    | some p =>
      obtain ⟨ds, μ2⟩ := p
      rw [hf] at h1
      simp only at h1
      obtain ⟨t2, r2⟩ := frzs_ok t1.sim (fun a ha => S.trk ha) S.accT r1 hf
      by_cases hl : ds.length ≤ LIM
      · rw [if_pos hl] at h1
        exact ⟨by rw [r2.len]; exact lim_ok hl, fun p hp => h1 (.ref p) _ (t1.trans (t2.trans (t2.sim.up hp _))) ⟨⟨p, rfl, (t1.trans t2).back hp, t2.sim.newL hp r2⟩, t2.sim.ownN hp r2⟩⟩
      · rw [if_neg hl] at h1; exact h1.elim
end

/-! ### 5. operators -/
def smallI (i : Int) : Bool := decide (-(2 ^ 64) < i) && decide (i < 2 ^ 64)
def opBin (op : Operator) (a b : D) : Option EV := match op, a, b with
  | .Add, .int i, .int j => some (.dat (.int (i + j)))
  | .Add, .str x, .str y => if x.length + y.length ≤ LIM then some (.dat (.str (x ++ y))) else none
  | .Add, .tup xs, .tup ys => if xs.length + ys.length ≤ LIM then some (.dat (.tup (xs ++ ys))) else none
  | .Add, .lst xs, .lst ys => if xs.length + ys.length ≤ LIM then some (.new (.lst (xs ++ ys))) else none
  | .Sub, .int i, .int j => some (.dat (.int (i - j)))
  | .Mult, .int i, .int j => if smallI i || smallI j then some (.dat (.int (i * j))) else none
  | .Mult, .lst xs, .int k => if 0 ≤ k ∧ k ≤ 1000000 ∧ xs.length * k.toNat ≤ LIM then some (.new (.lst (List.replicate k.toNat xs).flatten)) else none
  | .FloorDiv, .int i, .int j => if 0 < j ∧ j < 1073741824 then some (.dat (.int (i / j))) else none
  | .Mod, .int i, .int j => if 0 < j then some (.dat (.int (i % j))) else none
  | .Pow, .int i, .int j => if 0 ≤ j ∧ j ≤ 1000000 ∧ i.natAbs < 2 ^ 64 then some (.dat (.int (i ^ j.toNat))) else none
  | _, _, _ => none
def lift2 (f : D → D → Option EV) (a b : EV) (μ : Sto) : Res EV := match a.see μ, b.see μ with
  | some x, some y => match f x y with
    | some e => .ok e μ
    | none => .bad
  | _, _ => .bad
def eBin (op : Operator) (f g : SE) : SE := fun F ρ μ => (f F ρ μ).bind fun a μ1 => (g F ρ μ1).bind fun b μ2 => lift2 (opBin op) a b μ2
/-- what an operation on two values must give -/
def Op2 (K : PySem.W.Frag) (f : D → D → Option EV) (r : R2) : Prop :=
  ∀ (Acc : Addr → Prop) (ι : List Addr) (μ : Sto) (H : Hp) (a b : D) (x y : V) (e : EV) (Q : VK), Sim K Acc μ ι H → SeeR K (Liv Acc μ ι) H a x → SeeR K (Liv Acc μ ι) H b y → f a b = some e →
    (∀ v H', Stp K Acc ι μ H ι μ H' → relE K Acc μ ι H H' e v → Q v H') → r x y H Q
theorem lift2_ok {K : PySem.W.Frag} {XC : Nat → Addr} {W : WX} {Acc : Addr → Prop} {ι : List Addr} {μ μ0 : Sto} {H H0 : Hp} {σ : L2.St} {f : D → D → Option EV} {r : R2} {a b : EV} {x y : V} {Q : VK} (ho : Op2 K f r) (S0 : Sim K Acc μ0 ι H0) (t : Stp K Acc ι μ0 H0 ι μ H)
    (ra : EvR K (Liv Acc μ ι) ι H0 H a x) (rb : EvR K (Liv Acc μ ι) ι H0 H b y) (h : wp (relE K) K XC W Acc ι μ0 H0 σ (lift2 f a b μ) Q) : r x y H Q := by
  unfold lift2 at h
  cases ea : a.see μ with
  | none => rw [ea] at h; exact h.elim
  | some da =>
    cases eb : b.see μ with
    | none => rw [ea, eb] at h; exact h.elim
    | some db =>
      rw [ea, eb] at h
      simp only at h
      cases ef : f da db with
      | none => rw [ef] at h; exact h.elim
      | some e =>
        rw [ef] at h
        exact ho Acc ι μ H da db x y e Q t.sim (see_ok t.sim ra ea) (see_ok t.sim rb eb) ef fun v H' t' rv => h v H' (t.trans t') ⟨EvR.back t rv.1, rv.2⟩
section
variable {X : Cx} {XC : Nat → Addr} {F : Fns} {W : WX} {ea eb : Expr} {fa fb : SE} {pos : Pos}
theorem two_ok {K : PySem.W.Frag} {σ : L2.St} {H : Hp} {Q : VK} {f : D → D → Option EV} {r : R2} (ho : Op2 K f r)
    (h : rdE K XC F W (fun F ρ μ => (fa F ρ μ).bind fun a μ1 => (fb F ρ μ1).bind fun b μ2 => lift2 f a b μ2) σ H Q) : tOp r (rdE K XC F W fa) (rdE K XC F W fb) σ H Q := by
  obtain ⟨Acc, ι, ρ, μ, S, E, h⟩ := h
  refine rd.bind (.refl S) E h fun a μ1 x H1 _ t1 r1 h1 => ?_
  refine rd.bind t1 (E.mv t1 S) h1 fun b μ2 y H2 _ t2 r2 h2 => ?_
  exact lift2_ok ho S (t1.trans t2) (EvR.mv t1 S t2 r1.1 rfl) (EvR.back t1 r2.1) h2
theorem c_bin {op : Operator} {r : R2} (hr : OpR X (binaryOp op) r) (ho : Op2 X.K (opBin op) r) (ha : PE X ea (rdE X.K XC F W fa)) (hb : PE X eb (rdE X.K XC F W fb)) : PE X (.BinOp ea op eb pos) (rdE X.K XC F W (eBin op fa fb)) :=
  PEimp (pe_op hr ha hb) fun _ _ _ h => two_ok ho h
/-- a comparison as a value -/
def eCmp (f : D → D → Option Bool) (fa fb : SE) : SE := fun F ρ μ => (fa F ρ μ).bind fun a μ1 => (fb F ρ μ1).bind fun b μ2 => lift2 (fun x y => (f x y).map fun k => .dat (.bl k)) a b μ2
abbrev Cmp2 (K : PySem.W.Frag) (f : D → D → Option Bool) (r : R2) : Prop := Op2 K (fun x y => (f x y).map fun k => .dat (.bl k)) r
theorem c_cmp {op : CmpOp} {f : D → D → Option Bool} {r : R2} (hr : OpR X (compareOp op) r) (ho : Cmp2 X.K f r) (ha : PE X ea (rdE X.K XC F W fa)) (hb : PE X eb (rdE X.K XC F W fb)) (hm : behindInMarks op eb = false) : PE X (.Compare ea [op] [eb] pos) (rdE X.K XC F W (eCmp f fa fb)) :=
  PEimp (pe_cmpR hr ha hb hm) fun _ _ _ h => two_ok ho h
/-- a comparison as a test -/
def lift2B (f : D → D → Option Bool) (a b : EV) (μ : Sto) : Res Bool := match a.see μ, b.see μ with
  | some x, some y => match f x y with
    | some e => .ok e μ
    | none => .bad
  | _, _ => .bad
def bCmp (f : D → D → Option Bool) (fa fb : SE) : SB := fun F ρ μ => (fa F ρ μ).bind fun a μ1 => (fb F ρ μ1).bind fun b μ2 => lift2B f a b μ2
theorem lift2B_ok {K : PySem.W.Frag} {Acc : Addr → Prop} {ι : List Addr} {μ μ0 : Sto} {H H0 : Hp} {σ : L2.St} {f : D → D → Option Bool} {r : R2} {a b : EV} {x y : V} {Q : Bool → Hp → Prop} (ho : Cmp2 K f r) (S0 : Sim K Acc μ0 ι H0) (t : Stp K Acc ι μ0 H0 ι μ H)
    (ra : EvR K (Liv Acc μ ι) ι H0 H a x) (rb : EvR K (Liv Acc μ ι) ι H0 H b y) (h : wp relB K XC W Acc ι μ0 H0 σ (lift2B f a b μ) Q) : r x y H fun z H' => ∃ k, z = .bl k ∧ Q k H' := by
  unfold lift2B at h
  cases ea : a.see μ with
  | none => rw [ea] at h; exact h.elim
  | some da =>
    cases eb : b.see μ with
    | none => rw [ea, eb] at h; exact h.elim
    | some db =>
      rw [ea, eb] at h
      simp only at h
      cases ef : f da db with
      | none => rw [ef] at h; exact h.elim
      | some e =>
        rw [ef] at h
        exact ho Acc ι μ H da db x y (.dat (.bl e)) _ t.sim (see_ok t.sim ra ea) (see_ok t.sim rb eb) (by show Option.map _ (f da db) = _; rw [ef]; rfl) fun v H' t' rv => ⟨e, rv.1, h e H' (t.trans t') rfl⟩
theorem ct_cmp {op : CmpOp} {f : D → D → Option Bool} {r : R2} (hr : OpR X (compareOp op) r) (ho : Cmp2 X.K f r) (ha : PE X ea (rdE X.K XC F W fa)) (hb : PE X eb (rdE X.K XC F W fb)) (hm : behindInMarks op eb = false) : PT X (.Compare ea [op] [eb] pos) (rdB X.K XC F W (bCmp f fa fb)) :=
  PTimp (pt_cmpR hr ha hb hm) fun σ H Q ⟨Acc, ι, ρ, μ, S, E, h⟩ => by
    refine rd.bind (.refl S) E h fun a μ1 x H1 _ t1 r1 h1 => ?_
    refine rd.bind t1 (E.mv t1 S) h1 fun b μ2 y H2 _ t2 r2 h2 => ?_
    exact lift2B_ok ho S (t1.trans t2) (EvR.mv t1 S t2 r1.1 rfl) (EvR.back t1 r2.1) h2
end
end VM
/-! Operators on data: what the interpreter reckons, and that the machine does so. -/
namespace VM
open PySem L2

/-! ### 1. arithmetic -/
section
variable {K : PySem.W.Frag} {Acc : Addr → Prop} {ι : List Addr} {μ : Sto} {H : Hp}
theorem fin_dat {d : D} {v : V} {Q : VK} (S : Sim K Acc μ ι H) (q : ∀ v H', Stp K Acc ι μ H ι μ H' → relE K Acc μ ι H H' (.dat d) v → Q v H') (r : Rep K (Liv Acc μ ι) H d v) : Q v H := q v H (.refl S) ⟨r, trivial⟩
theorem fin_tup {ds : List D} {vs : List V} {Q : VK} (S : Sim K Acc μ ι H) (q : ∀ v H', Stp K Acc ι μ H ι μ H' → relE K Acc μ ι H H' (.dat (.tup ds)) v → Q v H') (r : Reps K (Liv Acc μ ι) H ds vs) {p : Addr} (n : H p = none) : Q (.ref p) (upd H p (.tup vs)) :=
  q _ _ (S.up n _) ⟨S.newT n r, trivial⟩
theorem fin_lst {ds : List D} {vs : List V} {Q : VK} (S : Sim K Acc μ ι H) (q : ∀ v H', Stp K Acc ι μ H ι μ H' → relE K Acc μ ι H H' (.new (.lst ds)) v → Q v H') (r : Reps K (Liv Acc μ ι) H ds vs) {p : Addr} (n : H p = none) : Q (.ref p) (upd H p (.lst vs)) :=
  q _ _ (S.up n _) ⟨⟨p, rfl, n, S.newL n r⟩, S.ownN n r⟩
theorem seeT {L : Addr → Prop} {ds : List D} {x : V} (h : SeeR K L H (.tup ds) x) : ∃ a vs, x = .ref a ∧ TupN K L H a vs ∧ Reps K L H ds vs := by
  have h : Rep K L H (.tup ds) x := h
  simpa only [Rep] using h
theorem seeL {L : Addr → Prop} {ds : List D} {x : V} (h : SeeR K L H (.lst ds) x) : ∃ a vs, x = .ref a ∧ H a = some (.lst vs) ∧ Reps K L H ds vs := h
theorem seeI {L : Addr → Prop} {i : Int} {x : V} (h : SeeR K L H (.int i) x) : x = .int i := h
theorem seeS {L : Addr → Prop} {i : Str} {x : V} (h : SeeR K L H (.str i) x) : x = .str i := h
theorem seeB {L : Addr → Prop} {i : Bool} {x : V} (h : SeeR K L H (.bl i) x) : x = .bl i := h
theorem seeN {L : Addr → Prop} {x : V} (h : SeeR K L H .non x) : x = .non := h
theorem Reps.flat {L : Addr → Prop} {ds : List D} {vs : List V} (r : Reps K L H ds vs) : ∀ k : Nat, Reps K L H (List.replicate k ds).flatten (List.replicate k vs).flatten
  | 0 => Reps.nil
  | k + 1 => by
    rw [List.replicate_succ, List.replicate_succ, List.flatten_cons, List.flatten_cons]
    exact r.app (Reps.flat r k)
end

def rAdd (K : PySem.W.Frag) : R2 := fun x y H Q => ((rI0 fun i j => .int (i + j)) x y H Q ∨ (∃ i j, x = .str i ∧ y = .str j ∧ i.length + j.length ≤ sizeLine ∧ Q (.str (i ++ j)) H)) ∨ rCatA K x y H Q ∨ rCat x y H Q
section
variable {X : Cx}
theorem or_add : OpR X (binaryOp .Add) (rAdd X.K) := by
  refine OpR.or (OpR.or op_add ?_) (OpR.or op_catA op_cat)
  intro pins s σ H x y v u Q I rx ry h
  obtain ⟨i, j, rfl, rfl, hz, q⟩ := h
  exact op_add_str pins s σ H _ _ v u Q I rx ry ⟨i, j, rfl, rfl, hz, q⟩
theorem o2_add : Op2 X.K (opBin .Add) (rAdd X.K) := by
  intro Acc ι μ H a b x y e Q S ra rb h q
  cases a <;> cases b <;> simp only [opBin, reduceCtorEq] at h
  · cases h
    rw [seeI ra, seeI rb]
    exact .inl (.inl ⟨_, _, rfl, rfl, fin_dat S q rep_int⟩)
  · rename_i i j
    split at h
    · rename_i hl
      cases h
      rw [seeS ra, seeS rb]
      exact .inl (.inr ⟨_, _, rfl, rfl, lim_ok hl, fin_dat S q rep_str⟩)
    · cases h
  · rename_i xs ys
    split at h
    · rename_i hl
      cases h
      obtain ⟨p, vs, rfl, tp, rp⟩ := seeT ra
      obtain ⟨p', ws, rfl, tp', rp'⟩ := seeT rb
      have r := rp.app rp'
      refine .inr (.inl ⟨p, p', vs, ws, rfl, rfl, tp.sq, tp'.sq, by rw [rp.len, rp'.len]; exact lim_ok hl, fun e => ?_, fun _ e => ?_, fun _ _ p2 n => fin_tup S q r n⟩)
      · subst e
        refine fin_dat S q ?_
        simp only [Rep]
        exact ⟨p', ws, rfl, tp', by simpa using r⟩
      · subst e
        refine fin_dat S q ?_
        simp only [Rep]
        exact ⟨p, vs, rfl, tp, by simpa using r⟩
    · cases h
  · rename_i xs ys
    split at h
    · rename_i hl
      cases h
      obtain ⟨p, vs, rfl, tp, rp⟩ := seeL ra
      obtain ⟨p', ws, rfl, tp', rp'⟩ := seeL rb
      exact .inr (.inr ⟨p, p', vs, ws, rfl, rfl, tp, tp', by rw [rp.len, rp'.len]; exact lim_ok hl, fun p2 n => fin_lst S q (rp.app rp') n⟩)
    · cases h
theorem o2_sub : Op2 X.K (opBin .Sub) (rI0 fun i j => .int (i - j)) := by
  intro Acc ι μ H a b x y e Q S ra rb h q
  cases a <;> cases b <;> simp only [opBin, reduceCtorEq] at h
  cases h
  rw [seeI ra, seeI rb]
  exact ⟨_, _, rfl, rfl, fin_dat S q rep_int⟩
def rMul : R2 := fun x y H Q => (rI CMul fun i j => .int (i * j)) x y H Q ∨ rRep x y H Q
theorem or_mul : OpR X (binaryOp .Mult) rMul := OpR.or op_mul op_rep
theorem smallI_iff {i : Int} : smallI i = true ↔ -(2 ^ 64) < i ∧ i < 2 ^ 64 := by
  unfold smallI
  simp
theorem o2_mul : Op2 X.K (opBin .Mult) rMul := by
  intro Acc ι μ H a b x y e Q S ra rb h q
  cases a <;> cases b <;> simp only [opBin, reduceCtorEq] at h
  · rename_i i j
    split at h
    · rename_i hs
      cases h
      rw [seeI ra, seeI rb]
      refine .inl ⟨_, _, rfl, rfl, ?_, fin_dat S q rep_int⟩
      rw [Bool.or_eq_true] at hs
      rcases hs with hs | hs
      · exact .inl (smallI_iff.mp hs)
      · exact .inr (smallI_iff.mp hs)
    · cases h
  · rename_i xs k
    split at h
    · rename_i hs
      cases h
      obtain ⟨h0, h1, h2⟩ := hs
      obtain ⟨p, vs, rfl, tp, rp⟩ := seeL ra
      rw [seeI rb]
      exact .inr ⟨p, k, vs, rfl, rfl, tp, by omega, by omega, by rw [rp.len]; exact lim_ok h2, fun p2 n => fin_lst S q (rp.flat _) n⟩
    · cases h
theorem o2_fdiv : Op2 X.K (opBin .FloorDiv) (rI CDiv fun i j => .int (i / j)) := by
  intro Acc ι μ H a b x y e Q S ra rb h q
  cases a <;> cases b <;> simp only [opBin, reduceCtorEq] at h
  split at h
  · rename_i hs
    cases h
    rw [seeI ra, seeI rb]
    exact ⟨_, _, rfl, rfl, hs, fin_dat S q rep_int⟩
  · cases h
theorem o2_mod : Op2 X.K (opBin .Mod) (rI (fun _ j => 0 < j) fun i j => .int (i % j)) := by
  intro Acc ι μ H a b x y e Q S ra rb h q
  cases a <;> cases b <;> simp only [opBin, reduceCtorEq] at h
  split at h
  · rename_i hs
    cases h
    rw [seeI ra, seeI rb]
    exact ⟨_, _, rfl, rfl, hs, fin_dat S q rep_int⟩
  · cases h
theorem o2_pow : Op2 X.K (opBin .Pow) (rI CPow fun i j => .int (i ^ j.toNat)) := by
  intro Acc ι μ H a b x y e Q S ra rb h q
  cases a <;> cases b <;> simp only [opBin, reduceCtorEq] at h
  split at h
  · rename_i hs
    cases h
    rw [seeI ra, seeI rb]
    exact ⟨_, _, rfl, rfl, hs, fin_dat S q rep_int⟩
  · cases h
end
/-- the operators that are served -/
theorem bin_ok (X : Cx) (op : Operator) : ∃ r, OpR X (binaryOp op) r ∧ Op2 X.K (opBin op) r := by
  cases op with
  | Add => exact ⟨_, or_add, o2_add⟩
  | Sub => exact ⟨_, op_sub, o2_sub⟩
  | Mult => exact ⟨_, or_mul, o2_mul⟩
  | FloorDiv => exact ⟨_, op_fdiv, o2_fdiv⟩
  | Mod => exact ⟨_, op_mod, o2_mod⟩
  | Pow => exact ⟨_, op_pow, o2_pow⟩
  | _ => exact ⟨fun _ _ _ _ => False, fun _ _ _ _ _ _ _ _ _ _ _ _ h => h.elim, fun _ _ _ _ a b _ _ _ _ _ _ _ h _ => by cases a <;> cases b <;> simp [opBin] at h⟩

/-! ### 2. == -/
mutual
def eqv : D → D → Bool
  | .non, .non => true
  | .bl a, .bl b => a == b
  | .bl a, .int j => (if a then 1 else 0) == j
  | .int i, .bl b => i == (if b then 1 else 0)
  | .int i, .int j => i == j
  | .str x, .str y => x.cps.toList == y.cps.toList
  | .lst xs, .lst ys => eqvs xs ys
  | .tup xs, .tup ys => eqvs xs ys
  | _, _ => false
def eqvs : List D → List D → Bool
  | [], [] => true
  | x :: xs, y :: ys => eqv x y && eqvs xs ys
  | _, _ => false
end
mutual
/-- what == may be asked of: nested at most n deep, texts of signs, no dict -/
def fits : Nat → D → Bool
  | _, .non => true
  | _, .bl _ => true
  | _, .int _ => true
  | _, .str x => x.cps.toList.all (· < 0x110000)
  | n + 1, .tup ds => fitsAll n ds
  | n + 1, .lst ds => fitsAll n ds
  | _, _ => false
def fitsAll : Nat → List D → Bool
  | _, [] => true
  | n, d :: ds => fits n d && fitsAll n ds
end
mutual
def D.py : D → PyData
  | .non => .none
  | .bl b => .bool b
  | .int i => .int i
  | .str x => .str x
  | .tup ds => .tuple (pys ds)
  | .lst ds => .list (pys ds)
  | .dic _ _ => .none
  | .dct _ _ => .none
  | .scr _ => .none
def pys : List D → List PyData
  | [] => []
  | d :: ds => d.py :: pys ds
end
theorem str_beq {x y : Str} : (x == y) = (x.cps.toList == y.cps.toList) := by
  rw [Bool.eq_iff_iff, beq_iff_eq, beq_iff_eq]
  constructor
  · rintro rfl; rfl
  · intro h
    cases x; cases y
    congr 1
    exact Array.toList_inj.mp h
mutual
theorem eqv_py : ∀ (n m : Nat) (a b : D), fits n a = true → fits m b = true → PyData.eqv a.py b.py = eqv a b
  | n, m, a, b, ha, hb => by
    cases a with
    | dic _ _ => cases n <;> simp [fits] at ha
    | dct _ _ => cases n <;> simp [fits] at ha
    | scr _ => cases n <;> simp [fits] at ha
    | tup xs =>
      cases b with
      | dic _ _ => cases m <;> simp [fits] at hb
      | dct _ _ => cases m <;> simp [fits] at hb
      | scr _ => cases m <;> simp [fits] at hb
      | tup ys =>
        cases n with
        | zero => simp [fits] at ha
        | succ n =>
          cases m with
          | zero => simp [fits] at hb
          | succ m =>
            simp only [D.py, PyData.eqv, eqv]
            exact eqvs_py n m xs ys (by simpa [fits] using ha) (by simpa [fits] using hb)
      | _ => simp [D.py, PyData.eqv, eqv]
    | lst xs =>
      cases b with
      | dic _ _ => cases m <;> simp [fits] at hb
      | dct _ _ => cases m <;> simp [fits] at hb
      | scr _ => cases m <;> simp [fits] at hb
      | lst ys =>
        cases n with
        | zero => simp [fits] at ha
        | succ n =>
          cases m with
          | zero => simp [fits] at hb
          | succ m =>
            simp only [D.py, PyData.eqv, eqv]
            exact eqvs_py n m xs ys (by simpa [fits] using ha) (by simpa [fits] using hb)
      | _ => simp [D.py, PyData.eqv, eqv]
    | str x =>
      cases b with
      | dic _ _ => cases m <;> simp [fits] at hb
      | dct _ _ => cases m <;> simp [fits] at hb
      | scr _ => cases m <;> simp [fits] at hb
      | str y => simp only [D.py, PyData.eqv, eqv]; exact str_beq
      | _ => simp [D.py, PyData.eqv, eqv]
    | _ =>
      cases b with
      | dic _ _ => cases m <;> simp [fits] at hb
      | dct _ _ => cases m <;> simp [fits] at hb
      | scr _ => cases m <;> simp [fits] at hb
      | _ => simp [D.py, PyData.eqv, eqv]
theorem eqvs_py : ∀ (n m : Nat) (a b : List D), fitsAll n a = true → fitsAll m b = true → PyData.eqvAll (pys a) (pys b) = eqvs a b
  | n, m, [], [], _, _ => by simp [pys, PyData.eqvAll, eqvs]
  | n, m, [], _ :: _, _, _ => by simp [pys, PyData.eqvAll, eqvs]
  | n, m, _ :: _, [], _, _ => by simp [pys, PyData.eqvAll, eqvs]
  | n, m, a :: as, b :: bs, ha, hb => by
    simp only [fitsAll, Bool.and_eq_true] at ha hb
    simp only [pys, PyData.eqvAll, eqvs, eqv_py n m a b ha.1 hb.1, eqvs_py n m as bs ha.2 hb.2]
end
mutual
theorem fits_lay : ∀ (n : Nat) (a : D), fits n a = true → a.py.canLay0 = true ∧ a.py.depth ≤ n
  | n, .non, h => by simp [D.py, PyData.canLay0, PyData.depth]
  | n, .bl _, h => by simp [D.py, PyData.canLay0, PyData.depth]
  | n, .int _, h => by simp [D.py, PyData.canLay0, PyData.depth]
  | n, .str x, h => by
    simp only [D.py, PyData.canLay0, PyData.depth, PyData.strOk]
    refine ⟨?_, Nat.zero_le _⟩
    have h' : x.cps.toList.all (fun c => decide (c < 0x110000)) = true := by cases n <;> simpa [fits] using h
    simpa [← Array.all_toList] using h'
  | 0, .tup ds, h => by simp [fits] at h
  | 0, .lst ds, h => by simp [fits] at h
  | n + 1, .tup ds, h => by
    obtain ⟨h1, h2⟩ := fitsAll_lay n ds (by simpa [fits] using h)
    simp only [D.py, PyData.canLay0, PyData.depth]
    exact ⟨h1, by omega⟩
  | n + 1, .lst ds, h => by
    obtain ⟨h1, h2⟩ := fitsAll_lay n ds (by simpa [fits] using h)
    simp only [D.py, PyData.canLay0, PyData.depth]
    exact ⟨h1, by omega⟩
  | n, .dic _ _, h => by cases n <;> simp [fits] at h
  | n, .dct _ _, h => by cases n <;> simp [fits] at h
  | n, .scr _, h => by cases n <;> simp [fits] at h
theorem fitsAll_lay : ∀ (n : Nat) (a : List D), fitsAll n a = true → PyData.canLayAll0 (pys a) = true ∧ PyData.depthAll (pys a) ≤ n
  | n, [], h => by simp [pys, PyData.canLayAll0, PyData.depthAll]
  | n, a :: as, h => by
    simp only [fitsAll, Bool.and_eq_true] at h
    obtain ⟨h1, h2⟩ := fits_lay n a h.1
    obtain ⟨h3, h4⟩ := fitsAll_lay n as h.2
    simp only [pys, PyData.canLayAll0, PyData.depthAll, h1, h3, Bool.and_self, true_and]
    exact Nat.max_le.mpr ⟨h2, h4⟩
end
theorem fits_shaped {a : D} (h : fits 64 a = true) : SeqAt.shaped a.py = true := by
  obtain ⟨h1, h2⟩ := fits_lay 64 a h
  unfold SeqAt.shaped
  rw [h1, decide_eq_true h2]
  rfl
mutual
theorem Rep.dp {K : PySem.W.Frag} {L : Addr → Prop} {H : Hp} : ∀ (n : Nat) (d : D) (v : V), fits n d = true → Rep K L H d v → Dp K H v d.py
  | n, .non, v, h, r => by simp only [Rep] at r; subst r; simp only [D.py]; exact .non
  | n, .bl b, v, h, r => by simp only [Rep] at r; subst r; simp only [D.py]; exact .bl b
  | n, .int b, v, h, r => by simp only [Rep] at r; subst r; simp only [D.py]; exact .int b
  | n, .str b, v, h, r => by simp only [Rep] at r; subst r; simp only [D.py]; exact .str b
  | 0, .tup ds, v, h, r => by simp [fits] at h
  | 0, .lst ds, v, h, r => by simp [fits] at h
  | n + 1, .tup ds, v, h, r => by
    simp only [Rep] at r
    obtain ⟨a, vs, rfl, t, r⟩ := r
    simp only [D.py]
    exact .tup t.sq (Reps.dp n ds vs (by simpa [fits] using h) r)
  | n + 1, .lst ds, v, h, r => by
    simp only [Rep] at r
    obtain ⟨a, vs, rfl, t, _, r⟩ := r
    simp only [D.py]
    exact .lst (SqL.of t) (Reps.dp n ds vs (by simpa [fits] using h) r)
  | n, .dic _ _, v, h, r => by cases n <;> simp [fits] at h
  | n, .dct _ _, v, h, r => by cases n <;> simp [fits] at h
  | n, .scr _, v, h, r => by cases n <;> simp [fits] at h
theorem Reps.dp {K : PySem.W.Frag} {L : Addr → Prop} {H : Hp} : ∀ (n : Nat) (ds : List D) (vs : List V), fitsAll n ds = true → Reps K L H ds vs → DpAll K H vs (pys ds)
  | n, [], vs, h, r => by rw [r.invN]; simp only [pys]; exact .nil
  | n, d :: ds, vs, h, r => by
    obtain ⟨v, rs, rfl, h1, h2⟩ := r.inv
    simp only [fitsAll, Bool.and_eq_true] at h
    simp only [pys]
    exact .cons (Rep.dp n d v h.1 h1) (Reps.dp n ds rs h.2 h2)
end
theorem SeeR.dp {K : PySem.W.Frag} {L : Addr → Prop} {H : Hp} {d : D} {v : V} (h : fits 64 d = true) (r : SeeR K L H d v) : Dp K H v d.py := by
  cases d with
  | lst ds =>
    obtain ⟨a, vs, rfl, t, r⟩ := r
    simp only [D.py]
    exact .lst (SqL.of t) (Reps.dp 63 ds vs (by simpa [fits] using h) r)
  | dic _ _ => simp [fits] at h
  | dct _ _ => simp [fits] at h
  | _ => exact Rep.dp (L := L) 64 _ v h r
/-- two texts -/
def txEq (a b : D) : Option Bool := match a, b with
  | .str x, .str y => some (x.cps.toList == y.cps.toList)
  | _, _ => none
/-- ==: texts at once, the rest where it fits -/
def lenNe (a b : D) : Bool := match a, b with
  | .lst x, .lst y => x.length != y.length
  | _, _ => false
def opEq0 (a b : D) : Option Bool := match txEq a b with
  | some k => some k
  | none => if fits 64 a && fits 64 b then some (eqv a b) else if lenNe a b then some false else none
section
variable {X : Cx}
theorem txEq_ok {K : PySem.W.Frag} {L : Addr → Prop} {H : Hp} {a b : D} {x y : V} {k : Bool} (h : txEq a b = some k) (ra : SeeR K L H a x) (rb : SeeR K L H b y) : scal x y = true ∧ k = decide (x = y) := by
  cases a <;> cases b <;> simp only [txEq, reduceCtorEq] at h
  cases h
  rename_i i j
  rw [seeS ra, seeS rb]
  refine ⟨rfl, ?_⟩
  rw [dec_str, str_beq]
/-- two lists of unlike lengths -/
def rLens (K : PySem.W.Frag) (b : Bool) : R2 := fun x y H Q => ∃ (p q : Addr) (xs ys : List V), x = .ref p ∧ y = .ref q ∧ SqL K H p xs ∧ SqL K H q ys ∧ xs.length ≠ ys.length ∧ Q (.bl b) H
theorem len_eq (hu : X.A.units + 64 < cLine) : OpR X (compareOp .Eq) (rLens X.K false) := by
  intro pins s σ H x y v u Q I rx ry h
  obtain ⟨p, q, xs, ys, rfl, rfl, hp, hq, hn, hQ⟩ := h
  obtain rfl : v = Value.ref p := rx
  obtain rfl : u = Value.ref q := ry
  obtain ⟨its, r1, l1, _⟩ := I.list hp
  obtain ⟨its2, r2, l2, _⟩ := I.list hq
  refine SeqAt.RcAt.lists_lengths l1.isList l2.isList ?_ (by omega) X.prog X.w _ _ ⟨.bl false, H, I, rfl, hQ⟩
  rw [bne_iff_ne, List.size_toArray, List.size_toArray, ← r1.length, ← r2.length]
  exact hn
theorem len_ne (hu : X.A.units + 64 < cLine) : OpR X (compareOp .NotEq) (rLens X.K true) := by
  intro pins s σ H x y v u Q I rx ry h
  obtain ⟨p, q, xs, ys, rfl, rfl, hp, hq, hn, hQ⟩ := h
  obtain rfl : v = Value.ref p := rx
  obtain rfl : u = Value.ref q := ry
  obtain ⟨its, r1, l1, _⟩ := I.list hp
  obtain ⟨its2, r2, l2, _⟩ := I.list hq
  refine SeqAt.RcNeAt.lists_lengths l1.isList l2.isList ?_ (by omega) X.prog X.w _ _ ⟨.bl true, H, I, rfl, hQ⟩
  rw [bne_iff_ne, List.size_toArray, List.size_toArray, ← r1.length, ← r2.length]
  exact hn
theorem lenNe_ok {K : PySem.W.Frag} {L : Addr → Prop} {H : Hp} {a b : D} {x y : V} (h : lenNe a b = true) (ra : SeeR K L H a x) (rb : SeeR K L H b y) : ∃ (p q : Addr) (xs ys : List V), x = .ref p ∧ y = .ref q ∧ SqL K H p xs ∧ SqL K H q ys ∧ xs.length ≠ ys.length := by
  cases a <;> cases b <;> simp only [lenNe, reduceCtorEq] at h
  obtain ⟨p, xs, rfl, tp, rp⟩ := seeL ra
  obtain ⟨q, ys, rfl, tq, rq⟩ := seeL rb
  refine ⟨p, q, xs, ys, rfl, rfl, SqL.of tp, SqL.of tq, ?_⟩
  rw [rp.len, rq.len]
  simpa using h
theorem o2_eq0 : Cmp2 X.K opEq0 (fun x y H Q => rEq x y H Q ∨ (rEqD X.K x y H Q ∨ rLens X.K false x y H Q)) := by
  intro Acc ι μ H a b x y e Q S ra rb h q
  simp only [opEq0] at h
  cases ht : txEq a b with
  | some k =>
    rw [ht] at h
    cases h
    obtain ⟨h1, h2⟩ := txEq_ok ht ra rb
    refine .inl ⟨h1, ?_⟩
    rw [← h2]
    exact fin_dat S q rep_bl
  | none =>
    rw [ht] at h
    simp only at h
    by_cases hf : (fits 64 a && fits 64 b) = true
    · rw [if_pos hf] at h
      cases h
      rw [Bool.and_eq_true] at hf
      refine .inr (.inl ⟨a.py, b.py, ra.dp hf.1, rb.dp hf.2, fits_shaped hf.1, fits_shaped hf.2, ?_⟩)
      rw [eqv_py 64 64 a b hf.1 hf.2]
      exact fin_dat S q rep_bl
    · rw [if_neg hf] at h
      by_cases hl : lenNe a b = true
      · rw [if_pos hl] at h
        cases h
        obtain ⟨p, p', xs, ys, e1, e2, t1, t2, ne⟩ := lenNe_ok hl ra rb
        exact .inr (.inr ⟨p, p', xs, ys, e1, e2, t1, t2, ne, fin_dat S q rep_bl⟩)
      · rw [if_neg hl] at h; cases h
theorem o2_ne0 : Cmp2 X.K (fun a b => (opEq0 a b).map (!·)) (fun x y H Q => rNe x y H Q ∨ (rNeD X.K x y H Q ∨ rLens X.K true x y H Q)) := by
  intro Acc ι μ H a b x y e Q S ra rb h q
  simp only [opEq0] at h
  cases ht : txEq a b with
  | some k =>
    rw [ht] at h
    cases h
    obtain ⟨h1, h2⟩ := txEq_ok ht ra rb
    refine .inl ⟨h1, ?_⟩
    rw [← h2]
    exact fin_dat S q rep_bl
  | none =>
    rw [ht] at h
    simp only at h
    by_cases hf : (fits 64 a && fits 64 b) = true
    · rw [if_pos hf] at h
      cases h
      rw [Bool.and_eq_true] at hf
      refine .inr (.inl ⟨a.py, b.py, ra.dp hf.1, rb.dp hf.2, fits_shaped hf.1, fits_shaped hf.2, ?_⟩)
      rw [eqv_py 64 64 a b hf.1 hf.2]
      exact fin_dat S q rep_bl
    · rw [if_neg hf] at h
      by_cases hl : lenNe a b = true
      · rw [if_pos hl] at h
        cases h
        obtain ⟨p, p', xs, ys, e1, e2, t1, t2, ne⟩ := lenNe_ok hl ra rb
        exact .inr (.inr ⟨p, p', xs, ys, e1, e2, t1, t2, ne, fin_dat S q rep_bl⟩)
      · rw [if_neg hl] at h; cases h
end
end VM
/-! Comparisons, truth, and/or, subscripts. -/
namespace VM
open PySem L2 PyProof.Rows

/-! ### 1. comparisons of ints; is; in -/
def opI (f : Int → Int → Bool) (a b : D) : Option Bool := match a, b with
  | .int i, .int j => some (f i j)
  | _, _ => none
section
variable {X : Cx}
theorem o2_int {f : Int → Int → Bool} : Cmp2 X.K (opI f) (rI0 fun i j => .bl (f i j)) := by
  intro Acc ι μ H a b x y e Q S ra rb h q
  cases a <;> cases b <;> simp only [opI, Option.map_none, Option.map_some, reduceCtorEq] at h
  cases h
  rw [seeI ra, seeI rb]
  exact ⟨_, _, rfl, rfl, fin_dat S q rep_bl⟩
/-- x is None, True, False -/
def D.isNon : D → Bool
  | .non => true
  | _ => false
def opIs (a b : D) : Option Bool := match b with
  | .non => some a.isNon
  | .bl j => match a with
    | .bl i => some (i == j)
    | .int _ => some false
    | .str _ => some false
    | .non => some false
    | _ => none
  | _ => none
def rIs1 : R2 := fun x y H Q => y = .non ∧ Q (.bl (decide (x = .non))) H
def rIs2 : R2 := fun x y H Q => ∃ j, y = .bl j ∧ ((∃ i, x = .bl i) ∨ (∃ i, x = .int i) ∨ (∃ i, x = .str i) ∨ x = .non) ∧ Q (.bl (decide (x = .bl j))) H
def rNot2 : R2 := fun x y H Q => ∃ j, y = .bl j ∧ ((∃ i, x = .bl i) ∨ (∃ i, x = .int i) ∨ (∃ i, x = .str i) ∨ x = .non) ∧ Q (.bl (!decide (x = .bl j))) H
theorem op_is2 : OpR X (compareOp .Is) rIs2 := by
  intro pins s σ H x y v u Q I rx ry h
  obtain ⟨j, rfl, hx, q⟩ := h
  cases (show u = Value.bool j from ry)
  rcases hx with ⟨i, rfl⟩ | ⟨i, rfl⟩ | ⟨i, rfl⟩ | rfl
  · cases (show v = Value.bool i from rx)
    by_cases e : i = j
    · subst e
      exact wpAny_is_self rfl ⟨.bl true, H, I, rfl, by simpa using q⟩
    · exact wpAny_is_other rfl (fun z => e (Value.bool.inj z)) ⟨.bl false, H, I, rfl, by simpa [e] using q⟩
  · obtain ⟨t, rfl⟩ := rx
    exact wpAny_is_other rfl (fun z => by cases z) ⟨.bl false, H, I, rfl, by simpa using q⟩
  · obtain ⟨t, rfl⟩ := rx
    exact wpAny_is_other rfl (fun z => by cases z) ⟨.bl false, H, I, rfl, by simpa using q⟩
  · cases (show v = Value.none from rx)
    exact wpAny_is_other rfl (fun z => by cases z) ⟨.bl false, H, I, rfl, by simpa using q⟩
theorem op_not2 : OpR X (compareOp .IsNot) rNot2 := by
  intro pins s σ H x y v u Q I rx ry h
  obtain ⟨j, rfl, hx, q⟩ := h
  cases (show u = Value.bool j from ry)
  rcases hx with ⟨i, rfl⟩ | ⟨i, rfl⟩ | ⟨i, rfl⟩ | rfl
  · cases (show v = Value.bool i from rx)
    by_cases e : i = j
    · subst e
      exact wpAny_isNot_self rfl ⟨.bl false, H, I, rfl, by simpa using q⟩
    · exact wpAny_isNot_other rfl (fun z => e (Value.bool.inj z)) ⟨.bl true, H, I, rfl, by simpa [e] using q⟩
  · obtain ⟨t, rfl⟩ := rx
    exact wpAny_isNot_other rfl (fun z => by cases z) ⟨.bl true, H, I, rfl, by simpa using q⟩
  · obtain ⟨t, rfl⟩ := rx
    exact wpAny_isNot_other rfl (fun z => by cases z) ⟨.bl true, H, I, rfl, by simpa using q⟩
  · cases (show v = Value.none from rx)
    exact wpAny_isNot_other rfl (fun z => by cases z) ⟨.bl true, H, I, rfl, by simpa using q⟩
theorem see_none {K : PySem.W.Frag} {L : Addr → Prop} {H : Hp} {d : D} {x : V} (r : SeeR K L H d x) : decide (x = .non) = d.isNon := by
  cases d with
  | non => rw [seeN r]; rfl
  | bl _ => rw [seeB r]; rfl
  | int _ => rw [seeI r]; rfl
  | str _ => rw [seeS r]; rfl
  | tup _ => obtain ⟨a, vs, rfl, _⟩ := seeT r; rfl
  | lst _ => obtain ⟨a, vs, rfl, _⟩ := r; rfl
  | dic _ _ => obtain ⟨a, vs, rfl, _⟩ := r; rfl
  | dct _ _ => obtain ⟨a, vs, rfl, _⟩ := r; rfl
  | scr _ => obtain ⟨a, rfl, _⟩ := (by simpa only [SeeR, Rep] using r : ∃ a, x = .ref a ∧ _); rfl
theorem o2_is : Cmp2 X.K opIs (fun x y H Q => (y = .non ∧ Q (.bl (decide (x = .non))) H) ∨ rIs2 x y H Q) := by
  intro Acc ι μ H a b x y e Q S ra rb h q
  cases b <;> simp only [opIs, Option.map_none, reduceCtorEq] at h
  · cases h
    refine .inl ⟨seeN rb, ?_⟩
    rw [see_none ra]
    exact fin_dat S q rep_bl
  · rename_i j
    refine .inr ⟨j, seeB rb, ?_⟩
    cases a <;> simp only [Option.map_none, Option.map_some, reduceCtorEq] at h
    · cases h; rw [seeN ra]; exact ⟨.inr (.inr (.inr rfl)), by simpa using fin_dat S q rep_bl⟩
    · rename_i i
      cases h; rw [seeB ra]; refine ⟨.inl ⟨_, rfl⟩, ?_⟩
      have z : decide (V.bl i = V.bl j) = (i == j) := by rw [Bool.eq_iff_iff]; simp
      rw [z]; exact fin_dat S q rep_bl
    · cases h; rw [seeI ra]; exact ⟨.inr (.inl ⟨_, rfl⟩), by simpa using fin_dat S q rep_bl⟩
    · cases h; rw [seeS ra]; exact ⟨.inr (.inr (.inl ⟨_, rfl⟩)), by simpa using fin_dat S q rep_bl⟩
theorem o2_isnot : Cmp2 X.K (fun a b => (opIs a b).map (!·)) (fun x y H Q => (y = .non ∧ Q (.bl (!decide (x = .non))) H) ∨ rNot2 x y H Q) := by
  intro Acc ι μ H a b x y e Q S ra rb h q
  cases b <;> simp only [opIs, Option.map_none, reduceCtorEq] at h
  · cases h
    refine .inl ⟨seeN rb, ?_⟩
    rw [see_none ra]
    exact fin_dat S q rep_bl
  · rename_i j
    refine .inr ⟨j, seeB rb, ?_⟩
    cases a <;> simp only [Option.map_none, Option.map_some, reduceCtorEq] at h
    · cases h; rw [seeN ra]; exact ⟨.inr (.inr (.inr rfl)), by simpa using fin_dat S q rep_bl⟩
    · rename_i i
      cases h; rw [seeB ra]; refine ⟨.inl ⟨_, rfl⟩, ?_⟩
      have z : decide (V.bl i = V.bl j) = (i == j) := by rw [Bool.eq_iff_iff]; simp
      rw [z]; exact fin_dat S q rep_bl
    · cases h; rw [seeI ra]; exact ⟨.inr (.inl ⟨_, rfl⟩), by simpa using fin_dat S q rep_bl⟩
    · cases h; rw [seeS ra]; exact ⟨.inr (.inr (.inl ⟨_, rfl⟩)), by simpa using fin_dat S q rep_bl⟩
end

/-! ### 2. keys, dicts looked up -/
def D.key : D → Option Key
  | .int i => some (.inl i)
  | .str x => some (.inr x)
  | _ => none
def keyEq (a b : Key) : Bool := match a, b with
  | .inl i, .inl j => i == j
  | .inr x, .inr y => x.cps.toList == y.cps.toList
  | _, _ => false
theorem keyEq_iff {a b : Key} : keyEq a b = true ↔ a = b := by
  cases a with
  | inl i => cases b with
    | inl j => simp [keyEq]
    | inr y => simp [keyEq]
  | inr x => cases b with
    | inl j => simp [keyEq]
    | inr y =>
      show (x.cps.toList == y.cps.toList) = true ↔ _
      rw [← str_beq, beq_iff_eq]
      simp
def dget : List Key → List D → Key → Option D
  | k :: ks, d :: ds, j => if keyEq k j then some d else dget ks ds j
  | _, _, _ => none
def dhas (ks : List Key) (j : Key) : Bool := ks.any fun k => keyEq k j
def dput : List Key → List D → Key → D → List Key × List D
  | k :: ks, d :: ds, j, e => if keyEq k j then (k :: ks, e :: ds) else ((k :: (dput ks ds j e).1), (d :: (dput ks ds j e).2))
  | _, _, j, e => ([j], [e])
section
variable {K : PySem.W.Frag} {L : Addr → Prop} {H : Hp}
theorem key_rep {d : D} {k : Key} {v : V} (h : d.key = some k) (r : SeeR K L H d v) : v = kV k := by
  cases d <;> simp only [D.key, reduceCtorEq] at h
  · cases h; exact seeI r
  · cases h; exact seeS r
theorem val_get : ∀ {ks : List Key} {ds : List D} {vs : List V} {k : Key}, ks.length = ds.length → Reps K L H ds vs → match dget ks ds k with
    | some d => ∃ v, valV (ks.zip vs) k = some v ∧ Rep K L H d v
    | none => valV (ks.zip vs) k = none
  | [], [], vs, k, hl, r => by rw [r.invN]; rfl
  | [], _ :: _, vs, k, hl, r => by cases hl
  | _ :: _, [], vs, k, hl, r => by cases hl
  | a :: ks, d :: ds, vs, k, hl, r => by
    obtain ⟨v, rs, rfl, h1, h2⟩ := r.inv
    rw [List.zip_cons_cons]
    unfold dget
    by_cases e : keyEq a k = true
    · rw [if_pos e]
      exact ⟨v, valV_pos (keyEq_iff.mp e), h1⟩
    · rw [if_neg e, valV_neg (fun z => e (keyEq_iff.mpr z))]
      exact val_get (by simpa using hl) h2
theorem val_has {ks : List Key} {ds : List D} {vs : List V} {k : Key} (hl : ks.length = ds.length) (r : Reps K L H ds vs) : (valV (ks.zip vs) k).isSome = dhas ks k := by
  rw [← valV_any]
  have hv : vs.length = ks.length := by rw [r.len, hl]
  unfold dhas
  have e : ∀ (ks : List Key) (vs : List V), vs.length = ks.length → ((ks.zip vs).any fun kv => decide (kv.1 = k)) = ks.any fun a => keyEq a k := by
    intro ks
    induction ks with
    | nil => intro vs _; rfl
    | cons a ks ih =>
      intro vs hv
      cases vs with
      | nil => cases hv
      | cons v vs =>
        rw [List.zip_cons_cons, List.any_cons, List.any_cons, ih vs (by simpa using hv)]
        congr 1
        rw [Bool.eq_iff_iff, decide_eq_true_iff, keyEq_iff]
  exact e ks vs hv
theorem dput_len : ∀ {ks : List Key} {ds : List D} {k : Key} {d : D}, ks.length = ds.length → (dput ks ds k d).1.length = (dput ks ds k d).2.length
  | [], [], k, d, _ => rfl
  | [], _ :: _, k, d, h => by cases h
  | _ :: _, [], k, d, h => by cases h
  | a :: ks, b :: ds, k, d, h => by
    unfold dput
    by_cases e : keyEq a k = true
    · rw [if_pos e]; simpa using h
    · rw [if_neg e]
      simpa using dput_len (k := k) (d := d) (by simpa using h)
/-- no key twice: what the store of a key does -/
theorem val_put : ∀ {ks : List Key} {ds : List D} {vs : List V} {k : Key} {d : D} {v : V}, ks.Nodup → ks.length = ds.length → Reps K L H ds vs → Rep K L H d v →
    ∃ ws, putK (ks.zip vs) k v = (dput ks ds k d).1.zip ws ∧ Reps K L H (dput ks ds k d).2 ws
  | [], [], vs, k, d, v, _, hl, r, rd => by
    rw [r.invN]
    exact ⟨[v], rfl, Reps.cons rd Reps.nil⟩
  | [], _ :: _, vs, k, d, v, _, hl, r, rd => by cases hl
  | _ :: _, [], vs, k, d, v, _, hl, r, rd => by cases hl
  | a :: ks, b :: ds, vs, k, d, v, nd, hl, r, rd => by
    obtain ⟨w, rs, rfl, h1, h2⟩ := r.inv
    rw [List.zip_cons_cons]
    obtain ⟨na, nks⟩ := List.nodup_cons.mp nd
    unfold dput
    by_cases e : keyEq a k = true
    · rw [if_pos e]
      have e' := keyEq_iff.mp e
      refine ⟨v :: rs, ?_, Reps.cons rd h2⟩
      unfold putK
      have ha : (((a, w) :: ks.zip rs).any fun kv => decide (kv.1 = k)) = true := by rw [List.any_cons, decide_eq_true e']; rfl
      rw [if_pos ha, List.map_cons, if_pos e', List.zip_cons_cons]
      congr 1
      have : ∀ p ∈ ks.zip rs, (if p.1 = k then (p.1, v) else p) = p := fun p hp => by
        rw [if_neg]
        intro z
        refine na ?_
        rw [e', ← z]
        exact (List.of_mem_zip (a := p.1) (b := p.2) hp).1
      calc (ks.zip rs).map _ = (ks.zip rs).map id := List.map_congr_left this
        _ = ks.zip rs := List.map_id _
    · rw [if_neg e]
      have e' : ¬ a = k := fun z => e (keyEq_iff.mpr z)
      obtain ⟨ws, h3, h4⟩ := val_put (k := k) nks (by simpa using hl) h2 rd
      refine ⟨w :: ws, ?_, Reps.cons h1 h4⟩
      show _ = (a, w) :: ((dput ks ds k d).1.zip ws)
      rw [← h3]
      unfold putK
      rw [List.any_cons, decide_eq_false e', Bool.false_or]
      by_cases z : ((ks.zip rs).any fun kv => decide (kv.1 = k)) = true
      · rw [if_pos z, if_pos z, List.map_cons, if_neg e']
      · rw [if_neg z, if_neg z, List.cons_append]
end
def ndK (ks : List Key) : Bool := match ks with
  | [] => true
  | k :: r => !(dhas r k) && ndK r
theorem ndK_ok : ∀ {ks : List Key}, ndK ks = true → ks.Nodup
  | [], _ => List.nodup_nil
  | k :: r, h => by
    unfold ndK at h
    rw [Bool.and_eq_true, Bool.not_eq_true'] at h
    refine List.nodup_cons.mpr ⟨fun hm => ?_, ndK_ok h.2⟩
    have : dhas r k = true := by
      unfold dhas
      rw [List.any_eq_true]
      exact ⟨k, hm, keyEq_iff.mpr rfl⟩
    rw [this] at h
    exact absurd h.1 (by simp)

/-! ### keys that are tuples -/
def dkeys : List D → Option (List Key)
  | [] => some []
  | d :: ds => match d.key, dkeys ds with
    | some k, some ks => some (k :: ks)
    | _, _ => none
def D.tkey : D → Option (List Key)
  | .tup ds => dkeys ds
  | _ => none
def tkEq : List Key → List Key → Bool
  | [], [] => true
  | a :: r, b :: s => keyEq a b && tkEq r s
  | _, _ => false
theorem tkEq_iff : ∀ {a b : List Key}, tkEq a b = true ↔ a = b
  | [], [] => by simp [tkEq]
  | [], _ :: _ => by simp [tkEq]
  | _ :: _, [] => by simp [tkEq]
  | a :: r, b :: s => by simp only [tkEq, Bool.and_eq_true, keyEq_iff, tkEq_iff (a := r) (b := s), List.cons.injEq]
theorem dkeys_rep {K : PySem.W.Frag} {L : Addr → Prop} {H : Hp} : ∀ {ds : List D} {vs : List V} {ks : List Key}, dkeys ds = some ks → Reps K L H ds vs → vs = ks.map kV
  | [], vs, ks, h, r => by cases h; rw [r.invN]; rfl
  | d :: ds, vs, ks, h, r => by
    obtain ⟨v, rs, rfl, h1, h2⟩ := r.inv
    simp only [dkeys] at h
    cases hk : d.key with
    | none => rw [hk] at h; cases h
    | some k =>
      cases hs : dkeys ds with
      | none => rw [hk, hs] at h; cases h
      | some js =>
        rw [hk, hs] at h
        cases h
        rw [List.map_cons, ← dkeys_rep hs h2]
        congr 1
        refine key_rep (K := K) (L := L) (H := H) hk ?_
        cases d <;> simp only [D.key, reduceCtorEq] at hk <;> exact h1
theorem tkey_rep {K : PySem.W.Frag} {L : Addr → Prop} {H : Hp} {d : D} {ks : List Key} {v : V} (h : d.tkey = some ks) (r : SeeR K L H d v) : ∃ b, v = .ref b ∧ H b = some (.tup (ks.map kV)) := by
  cases d <;> simp only [D.tkey, reduceCtorEq] at h
  obtain ⟨a, vs, rfl, tp, rp⟩ := seeT r
  exact ⟨a, rfl, by rw [← dkeys_rep h rp]; exact tp.1⟩
def tget : List (List Key) → List D → List Key → Option D
  | k :: ks, d :: ds, j => if tkEq k j then some d else tget ks ds j
  | _, _, _ => none
def thas (ks : List (List Key)) (j : List Key) : Bool := ks.any fun k => tkEq k j
def tput : List (List Key) → List D → List Key → D → List (List Key) × List D
  | k :: ks, d :: ds, j, e => if tkEq k j then (k :: ks, e :: ds) else ((k :: (tput ks ds j e).1), (d :: (tput ks ds j e).2))
  | _, _, j, e => ([j], [e])
section
variable {K : PySem.W.Frag} {L : Addr → Prop} {H : Hp}
theorem val_getT : ∀ {ks : List (List Key)} {ds : List D} {vs : List V} {k : List Key}, ks.length = ds.length → Reps K L H ds vs → match tget ks ds k with
    | some d => ∃ v, valV (ks.zip vs) k = some v ∧ Rep K L H d v
    | none => valV (ks.zip vs) k = none
  | [], [], vs, k, hl, r => by rw [r.invN]; rfl
  | [], _ :: _, vs, k, hl, r => by cases hl
  | _ :: _, [], vs, k, hl, r => by cases hl
  | a :: ks, d :: ds, vs, k, hl, r => by
    obtain ⟨v, rs, rfl, h1, h2⟩ := r.inv
    rw [List.zip_cons_cons]
    unfold tget
    by_cases e : tkEq a k = true
    · rw [if_pos e]
      exact ⟨v, valV_pos (tkEq_iff.mp e), h1⟩
    · rw [if_neg e, valV_neg (fun z => e (tkEq_iff.mpr z))]
      exact val_getT (by simpa using hl) h2
theorem val_hasT {ks : List (List Key)} {ds : List D} {vs : List V} {k : List Key} (hl : ks.length = ds.length) (r : Reps K L H ds vs) : (valV (ks.zip vs) k).isSome = thas ks k := by
  rw [← valV_any]
  have hv : vs.length = ks.length := by rw [r.len, hl]
  unfold thas
  have e : ∀ (ks : List (List Key)) (vs : List V), vs.length = ks.length → ((ks.zip vs).any fun kv => decide (kv.1 = k)) = ks.any fun a => tkEq a k := by
    intro ks
    induction ks with
    | nil => intro vs _; rfl
    | cons a ks ih =>
      intro vs hv
      cases vs with
      | nil => cases hv
      | cons v vs =>
        rw [List.zip_cons_cons, List.any_cons, List.any_cons, ih vs (by simpa using hv)]
        congr 1
        rw [Bool.eq_iff_iff, decide_eq_true_iff, tkEq_iff]
  exact e ks vs hv
theorem tput_len : ∀ {ks : List (List Key)} {ds : List D} {k : List Key} {d : D}, ks.length = ds.length → (tput ks ds k d).1.length = (tput ks ds k d).2.length
  | [], [], k, d, _ => rfl
  | [], _ :: _, k, d, h => by cases h
  | _ :: _, [], k, d, h => by cases h
  | a :: ks, b :: ds, k, d, h => by
    unfold tput
    by_cases e : tkEq a k = true
    · rw [if_pos e]; simpa using h
    · rw [if_neg e]
      simpa using tput_len (k := k) (d := d) (by simpa using h)
/-- no key twice: what the store of a key does -/
theorem val_putT : ∀ {ks : List (List Key)} {ds : List D} {vs : List V} {k : List Key} {d : D} {v : V}, ks.Nodup → ks.length = ds.length → Reps K L H ds vs → Rep K L H d v →
    ∃ ws, putK (ks.zip vs) k v = (tput ks ds k d).1.zip ws ∧ Reps K L H (tput ks ds k d).2 ws
  | [], [], vs, k, d, v, _, hl, r, rd => by
    rw [r.invN]
    exact ⟨[v], rfl, Reps.cons rd Reps.nil⟩
  | [], _ :: _, vs, k, d, v, _, hl, r, rd => by cases hl
  | _ :: _, [], vs, k, d, v, _, hl, r, rd => by cases hl
  | a :: ks, b :: ds, vs, k, d, v, nd, hl, r, rd => by
    obtain ⟨w, rs, rfl, h1, h2⟩ := r.inv
    rw [List.zip_cons_cons]
    obtain ⟨na, nks⟩ := List.nodup_cons.mp nd
    unfold tput
    by_cases e : tkEq a k = true
    · rw [if_pos e]
      have e' := tkEq_iff.mp e
      refine ⟨v :: rs, ?_, Reps.cons rd h2⟩
      unfold putK
      have ha : (((a, w) :: ks.zip rs).any fun kv => decide (kv.1 = k)) = true := by rw [List.any_cons, decide_eq_true e']; rfl
      rw [if_pos ha, List.map_cons, if_pos e', List.zip_cons_cons]
      congr 1
      have : ∀ p ∈ ks.zip rs, (if p.1 = k then (p.1, v) else p) = p := fun p hp => by
        rw [if_neg]
        intro z
        refine na ?_
        rw [e', ← z]
        exact (List.of_mem_zip (a := p.1) (b := p.2) hp).1
      calc (ks.zip rs).map _ = (ks.zip rs).map id := List.map_congr_left this
        _ = ks.zip rs := List.map_id _
    · rw [if_neg e]
      have e' : ¬ a = k := fun z => e (tkEq_iff.mpr z)
      obtain ⟨ws, h3, h4⟩ := val_putT (k := k) nks (by simpa using hl) h2 rd
      refine ⟨w :: ws, ?_, Reps.cons h1 h4⟩
      show _ = (a, w) :: ((tput ks ds k d).1.zip ws)
      rw [← h3]
      unfold putK
      rw [List.any_cons, decide_eq_false e', Bool.false_or]
      by_cases z : ((ks.zip rs).any fun kv => decide (kv.1 = k)) = true
      · rw [if_pos z, if_pos z, List.map_cons, if_neg e']
      · rw [if_neg z, if_neg z, List.cons_append]
end
def ndT (ks : List (List Key)) : Bool := match ks with
  | [] => true
  | k :: r => !(thas r k) && ndT r
theorem ndT_ok : ∀ {ks : List (List Key)}, ndT ks = true → ks.Nodup
  | [], _ => List.nodup_nil
  | k :: r, h => by
    unfold ndT at h
    rw [Bool.and_eq_true, Bool.not_eq_true'] at h
    refine List.nodup_cons.mpr ⟨fun hm => ?_, ndT_ok h.2⟩
    have : thas r k = true := by
      unfold thas
      rw [List.any_eq_true]
      exact ⟨k, hm, tkEq_iff.mpr rfl⟩
    rw [this] at h
    exact absurd h.1 (by simp)

/-! ### 3. in -/
def sgnIn (x z : Str) : Option Bool := match x.cps.toList with
  | [c] => some (z.cps.toList.contains c)
  | _ => none
def opIn (a b : D) : Option Bool := match b with
  | .str z => match a with
    | .str x => sgnIn x z
    | _ => none
  | .lst ds => if fits 64 a && fitsAll 63 ds then some (ds.any fun d => eqv d a) else none
  | .tup ds => if fits 0 a && fitsAll 0 ds then some (ds.any fun d => eqv d a) else none
  | .dic ks _ => match a.key with
    | some k => some (dhas ks k)
    | none => none
  | .dct ks _ => match a.tkey with
    | some k => some (thas ks k)
    | none => none
  | _ => none
section
variable {X : Cx}
def rInDic : R2 := fun x y H Q => ∃ a o, y = .ref a ∧ DGet H a x o ∧ Q (.bl o.isSome) H
def rNotInDic : R2 := fun x y H Q => ∃ a o, y = .ref a ∧ DGet H a x o ∧ Q (.bl (!o.isSome)) H
theorem op_inDic (hu : X.A.units + 1 < cLine) : OpR X (compareOp .In) rInDic := by
  intro pins s σ H x y v u Q I rx ry h
  obtain ⟨a, o, rfl, g, q⟩ := h
  cases (show u = Value.ref a from ry)
  exact d_in hu I g rx fun s' I' => ⟨.bl _, H, I', rfl, q⟩
theorem op_notInDic (hu : X.A.units + 1 < cLine) : OpR X (compareOp .NotIn) rNotInDic := by
  intro pins s σ H x y v u Q I rx ry h
  obtain ⟨a, o, rfl, g, q⟩ := h
  cases (show u = Value.ref a from ry)
  exact d_notIn hu I g rx fun s' I' => ⟨.bl _, H, I', rfl, q⟩
def rSgn (neg : Bool) : R2 := fun x y H Q => ∃ (c : Nat) (z : Str), x = .str ⟨#[c]⟩ ∧ y = .str z ∧ Q (.bl (if neg then !decide (c ∈ z.cps.toList) else decide (c ∈ z.cps.toList))) H
def rInAll (K : PySem.W.Frag) : R2 := fun x y H Q => (rSgn false x y H Q ∨ rInD K x y H Q) ∨ (rIn K false x y H Q ∨ rInDic x y H Q)
def rNotInAll (K : PySem.W.Frag) : R2 := fun x y H Q => (rSgn true x y H Q ∨ rNotInD K x y H Q) ∨ (rIn K true x y H Q ∨ rNotInDic x y H Q)
theorem or_in (hu : X.A.units + 65 < cLine) : OpR X (compareOp .In) (rInAll X.K) :=
  OpR.or (OpR.or (fun pins s σ H x y v u Q I rx ry ⟨c, z, e1, e2, q⟩ => op_in_sign pins s σ H x y v u Q I rx ry ⟨c, z, e1, e2, q⟩) (op_inD hu)) (OpR.or op_in_seq (op_inDic (by omega)))
theorem or_notIn (hu : X.A.units + 65 < cLine) : OpR X (compareOp .NotIn) (rNotInAll X.K) :=
  OpR.or (OpR.or (fun pins s σ H x y v u Q I rx ry ⟨c, z, e1, e2, q⟩ => op_notIn_sign pins s σ H x y v u Q I rx ry ⟨c, z, e1, e2, q⟩) (op_notInD hu)) (OpR.or op_notIn_seq (op_notInDic (by omega)))
theorem flat_of {K : PySem.W.Frag} {L : Addr → Prop} {H : Hp} {d : D} {v : V} (h : fits 0 d = true) (r : Rep K L H d v) : flatV v = true := by
  cases d <;> simp [fits] at h <;> (simp only [Rep] at r; subst r; rfl)
theorem flats_of {K : PySem.W.Frag} {L : Addr → Prop} {H : Hp} : ∀ {ds : List D} {vs : List V}, fitsAll 0 ds = true → Reps K L H ds vs → vs.all flatV = true
  | [], vs, _, r => by rw [r.invN]; rfl
  | d :: ds, vs, h, r => by
    obtain ⟨v, rs, rfl, h1, h2⟩ := r.inv
    simp only [fitsAll, Bool.and_eq_true] at h
    rw [List.all_cons, flat_of h.1 h1, flats_of h.2 h2]
    rfl
theorem eqV_eqv {K : PySem.W.Frag} {L : Addr → Prop} {H : Hp} {a b : D} {x y : V} (ha : fits 0 a = true) (hb : fits 0 b = true) (ra : Rep K L H a x) (rb : Rep K L H b y) : eqV x y = eqv a b := by
  cases a <;> simp [fits] at ha <;> simp only [Rep] at ra <;> subst ra <;> cases b <;> simp [fits] at hb <;> simp only [Rep] at rb <;> subst rb <;> simp only [eqV, eqv]
  exact str_beq
theorem any_eqv {K : PySem.W.Frag} {L : Addr → Prop} {H : Hp} {a : D} {x : V} (ha : fits 0 a = true) (ra : Rep K L H a x) : ∀ {ds : List D} {vs : List V}, fitsAll 0 ds = true → Reps K L H ds vs → inV x vs = ds.any fun d => eqv d a
  | [], vs, _, r => by rw [r.invN]; rfl
  | d :: ds, vs, h, r => by
    obtain ⟨v, rs, rfl, h1, h2⟩ := r.inv
    simp only [fitsAll, Bool.and_eq_true] at h
    have := any_eqv ha ra h.2 h2
    unfold inV at this ⊢
    rw [List.any_cons, List.any_cons, this, eqV_eqv h.1 ha h1 ra]
theorem any_py {a : D} (ha : fits 64 a = true) : ∀ {ds : List D}, fitsAll 63 ds = true → ((pys ds).any fun z => PyData.eqv z a.py) = ds.any fun d => eqv d a
  | [], _ => rfl
  | d :: ds, h => by
    simp only [fitsAll, Bool.and_eq_true] at h
    simp only [pys, List.any_cons, any_py ha h.2, eqv_py 63 64 d a h.1 ha]
theorem seeR_rep {K : PySem.W.Frag} {L : Addr → Prop} {H : Hp} {d : D} {v : V} (h : fits 0 d = true) (r : SeeR K L H d v) : Rep K L H d v := by
  cases d <;> simp [fits] at h <;> exact r
theorem sgn_ok {x z : Str} {b : Bool} (h : sgnIn x z = some b) : ∃ c, x = ⟨#[c]⟩ ∧ b = decide (c ∈ z.cps.toList) := by
  unfold sgnIn at h
  split at h
  · rename_i c e
    cases h
    refine ⟨c, ?_, ?_⟩
    · cases x; congr 1; exact Array.toList_inj.mp e
    · rw [Bool.eq_iff_iff]; simp
  · cases h
theorem o2_in : Cmp2 X.K opIn (rInAll X.K) := by
  intro Acc ι μ H a b x y e Q S ra rb h q
  cases b <;> simp only [opIn, Option.map_none, reduceCtorEq] at h
  · rename_i z
    cases a <;> simp only [Option.map_none, reduceCtorEq] at h
    rename_i w
    cases hs : sgnIn w z with
    | none => rw [hs] at h; cases h
    | some k =>
      rw [hs] at h; cases h
      obtain ⟨c, rfl, rfl⟩ := sgn_ok hs
      exact .inl (.inl ⟨c, z, seeS ra, seeS rb, fin_dat S q rep_bl⟩)
  · rename_i ds
    split at h
    · rename_i hf
      cases h
      rw [Bool.and_eq_true] at hf
      obtain ⟨p, vs, rfl, tp, rp⟩ := seeT rb
      have ra' := seeR_rep hf.1 ra
      refine .inr (.inl ⟨p, vs, rfl, .inr tp.sq, flat_of hf.1 ra', flats_of hf.2 rp, ?_⟩)
      show Q (.bl (inV x vs)) H
      rw [any_eqv hf.1 ra' hf.2 rp]
      exact fin_dat S q rep_bl
    · cases h
  · rename_i ds
    split at h
    · rename_i hf
      cases h
      rw [Bool.and_eq_true] at hf
      have fl : fits 64 (.lst ds) = true := by simpa [fits] using hf.2
      refine .inl (.inr ⟨a.py, pys ds, ra.dp hf.1, by simpa only [D.py] using rb.dp fl, fits_shaped hf.1, by simpa only [D.py] using fits_shaped fl, ?_⟩)
      rw [any_py hf.1 hf.2]
      exact fin_dat S q rep_bl
    · cases h
  · rename_i ks ds
    cases hk : a.key with
    | none => rw [hk] at h; cases h
    | some k =>
      rw [hk] at h; cases h
      obtain ⟨p, vs, rfl, tp, hl, rp⟩ := rb
      refine .inr (.inr ⟨p, _, rfl, by rw [key_rep hk ra]; exact .inl ⟨_, _, tp, rfl, rfl⟩, ?_⟩)
      rw [val_has hl rp]
      exact fin_dat S q rep_bl
  · rename_i ks ds
    cases hk : a.tkey with
    | none => rw [hk] at h; cases h
    | some k =>
      rw [hk] at h; cases h
      obtain ⟨p, vs, rfl, tp, hl, rp⟩ := rb
      obtain ⟨b', rfl, eb⟩ := tkey_rep hk ra
      refine .inr (.inr ⟨p, _, rfl, .inr ⟨_, _, b', .inl tp, rfl, eb, rfl⟩, ?_⟩)
      rw [val_hasT hl rp]
      exact fin_dat S q rep_bl
theorem o2_notin : Cmp2 X.K (fun a b => (opIn a b).map (!·)) (rNotInAll X.K) := by
  intro Acc ι μ H a b x y e Q S ra rb h q
  cases b <;> simp only [opIn, Option.map_none, reduceCtorEq] at h
  · rename_i z
    cases a <;> simp only [Option.map_none, reduceCtorEq] at h
    rename_i w
    cases hs : sgnIn w z with
    | none => rw [hs] at h; cases h
    | some k =>
      rw [hs] at h; cases h
      obtain ⟨c, rfl, rfl⟩ := sgn_ok hs
      exact .inl (.inl ⟨c, z, seeS ra, seeS rb, fin_dat S q rep_bl⟩)
  · rename_i ds
    split at h
    · rename_i hf
      cases h
      rw [Bool.and_eq_true] at hf
      obtain ⟨p, vs, rfl, tp, rp⟩ := seeT rb
      have ra' := seeR_rep hf.1 ra
      refine .inr (.inl ⟨p, vs, rfl, .inr tp.sq, flat_of hf.1 ra', flats_of hf.2 rp, ?_⟩)
      show Q (.bl (!inV x vs)) H
      rw [any_eqv hf.1 ra' hf.2 rp]
      exact fin_dat S q rep_bl
    · cases h
  · rename_i ds
    split at h
    · rename_i hf
      cases h
      rw [Bool.and_eq_true] at hf
      have fl : fits 64 (.lst ds) = true := by simpa [fits] using hf.2
      refine .inl (.inr ⟨a.py, pys ds, ra.dp hf.1, by simpa only [D.py] using rb.dp fl, fits_shaped hf.1, by simpa only [D.py] using fits_shaped fl, ?_⟩)
      rw [any_py hf.1 hf.2]
      exact fin_dat S q rep_bl
    · cases h
  · rename_i ks ds
    cases hk : a.key with
    | none => rw [hk] at h; cases h
    | some k =>
      rw [hk] at h; cases h
      obtain ⟨p, vs, rfl, tp, hl, rp⟩ := rb
      refine .inr (.inr ⟨p, _, rfl, by rw [key_rep hk ra]; exact .inl ⟨_, _, tp, rfl, rfl⟩, ?_⟩)
      rw [val_has hl rp]
      exact fin_dat S q rep_bl
  · rename_i ks ds
    cases hk : a.tkey with
    | none => rw [hk] at h; cases h
    | some k =>
      rw [hk] at h; cases h
      obtain ⟨p, vs, rfl, tp, hl, rp⟩ := rb
      obtain ⟨b', rfl, eb⟩ := tkey_rep hk ra
      refine .inr (.inr ⟨p, _, rfl, .inr ⟨_, _, b', .inl tp, rfl, eb, rfl⟩, ?_⟩)
      rw [val_hasT hl rp]
      exact fin_dat S q rep_bl
end
/-! ### == of dicts -/
def hitsD (js : List Key) (es : List D) : List Key → List D → Bool
  | k :: ks, d :: ds => (match dget js es k with
    | some e => eqv d e
    | none => false) && hitsD js es ks ds
  | _, _ => true
def dicEq : D → D → Option Bool
  | .dic ks ds, .dic js es => if fitsAll 64 ds && fitsAll 64 es then some (ks.length == js.length && hitsD js es ks ds) else none
  | _, _ => none
/-- ==: of dicts, too -/
def opEq (a b : D) : Option Bool := match opEq0 a b with
  | some k => some k
  | none => dicEq a b
inductive DHits (K : PySem.W.Frag) (H : Hp) (kws : List (Key × V)) : List (Key × V) → Bool → Prop where
  | nil : DHits K H kws [] true
  | miss {k : Key} {v : V} {r : List (Key × V)} : valV kws k = none → DHits K H kws ((k, v) :: r) false
  | hit {k : Key} {v w : V} {r : List (Key × V)} {d e : PyData} {b : Bool} : valV kws k = some w → Dp K H v d → Dp K H w e → SeqAt.shaped d = true → SeqAt.shaped e = true → DHits K H kws r b → DHits K H kws ((k, v) :: r) (PyData.eqv d e && b)
section
variable {X : Cx}
theorem DHits.keq {pins : List (Addr × Obj)} {σ : L2.St} {H : Hp} {s : Shared} (I : Inv X pins σ H s) {kws : List (Key × V)} {ws : List (Key × Value)} (hw : KV kws ws) (hu : X.A.in1.units + 64 < cLine) : ∀ {kvs : List (Key × V)} {vs : List (Key × Value)} {r : Bool}, KV kvs vs → DHits X.K H kws kvs r → PySem.W.KeqHits X.A.in1 s ws vs r
  | [], vs, r, hv, h => by
    cases hv
    cases h
    exact .nil
  | (k, v) :: kvs, vs, r, hv, h => by
    cases hv with
    | cons h1 h2 =>
      rename_i q qs
      obtain ⟨k', u⟩ := q
      obtain ⟨e1, r1⟩ := h1
      have e1 : k = k' := e1
      subst e1
      cases h with
      | miss hn => exact .miss (RelO.none_of (by rw [← hn]; exact hw.val k))
      | hit hs d1 d2 s1 s2 hr =>
        obtain ⟨u', hu', ru⟩ := RelO.some_of (o := valueAt ws k) (by rw [← hs]; exact hw.val k)
        obtain ⟨as, q1⟩ := Dp.reads I _ _ _ d1 r1
        obtain ⟨bs, q2⟩ := Dp.reads I _ _ _ d2 ru
        exact .hit hu' (PySem.W.keq_at q1 q2 s1 s2 hu) (DHits.keq I hw hu h2 hr)
def rDicB (K : PySem.W.Frag) (f : Bool → Bool) : R2 := fun x y H Q => ∃ a b kvs kws r, x = .ref a ∧ y = .ref b ∧ Rd H a (.dK kvs) ∧ Rd H b (.dK kws) ∧ DHits K H kws kvs r ∧ Q (.bl (f (kvs.length == kws.length && r))) H
theorem dic_eq (hu : X.A.units + 65 < cLine) : OpR X (compareOp .Eq) (rDicB X.K id) := by
  intro pins s σ H x y v u Q I rx ry h
  obtain ⟨a, b, kvs, kws, r, rfl, rfl, ha, hb, hh, q⟩ := h
  obtain rfl : v = Value.ref a := rx
  obtain rfl : u = Value.ref b := ry
  obtain ⟨z1, n1, vs, rel1, dd1⟩ := dk_rd I.hok ha
  obtain ⟨z2, n2, ws, rel2, dd2⟩ := dk_rd I.hok hb
  have hi : X.A.in1.units + 64 < cLine := by
    have : X.A.in1.units = X.A.units + 1 := rfl
    omega
  refine PySem.W.keq_eq n1 n2 dd1 dd2 (by omega) (fun _ => hh.keq I rel2 hi rel1) ⟨.bl _, H, I, rfl, ?_⟩
  rw [← rel1.length, ← rel2.length]
  exact q
theorem dic_ne (hu : X.A.units + 65 < cLine) : OpR X (compareOp .NotEq) (rDicB X.K (!·)) := by
  intro pins s σ H x y v u Q I rx ry h
  obtain ⟨a, b, kvs, kws, r, rfl, rfl, ha, hb, hh, q⟩ := h
  obtain rfl : v = Value.ref a := rx
  obtain rfl : u = Value.ref b := ry
  obtain ⟨z1, n1, vs, rel1, dd1⟩ := dk_rd I.hok ha
  obtain ⟨z2, n2, ws, rel2, dd2⟩ := dk_rd I.hok hb
  have hi : X.A.in1.units + 64 < cLine := by
    have : X.A.in1.units = X.A.units + 1 := rfl
    omega
  refine PySem.W.keq_ne n1 n2 dd1 dd2 (by omega) (fun _ => hh.keq I rel2 hi rel1) ⟨.bl _, H, I, rfl, ?_⟩
  rw [← rel1.length, ← rel2.length]
  exact q
theorem hits_ok {K : PySem.W.Frag} {L : Addr → Prop} {H : Hp} {js : List Key} {es : List D} {ws : List V} (hj : js.length = es.length) (rw' : Reps K L H es ws) (hf : fitsAll 64 es = true) : ∀ (ks : List Key) (ds : List D) (vs : List V), ks.length = ds.length → Reps K L H ds vs → fitsAll 64 ds = true → DHits K H (js.zip ws) (ks.zip vs) (hitsD js es ks ds)
  | [], [], vs, _, r, _ => by rw [r.invN]; exact .nil
  | [], _ :: _, vs, h, _, _ => by simp at h
  | _ :: _, [], vs, h, _, _ => by simp at h
  | k :: ks, d :: ds, vs, h, r, hf' => by
    obtain ⟨v, rs, rfl, h1, h2⟩ := r.inv
    simp only [fitsAll, Bool.and_eq_true] at hf'
    have ih := hits_ok hj rw' hf ks ds rs (by simpa using h) h2 hf'.2
    have hg := val_get (k := k) hj rw'
    simp only [hitsD, List.zip_cons_cons]
    cases e : dget js es k with
    | none =>
      rw [e] at hg
      simp only [Bool.false_and]
      exact .miss hg
    | some e' =>
      rw [e] at hg
      obtain ⟨w, hw, rw2⟩ := hg
      have fe : fits 64 e' = true := by
        have : ∀ (es : List D) (js : List Key), fitsAll 64 es = true → dget js es k = some e' → fits 64 e' = true := by
          intro es
          induction es with
          | nil => intro js _ h; cases js <;> simp [dget] at h
          | cons x es ih =>
            intro js hf h
            simp only [fitsAll, Bool.and_eq_true] at hf
            cases js with
            | nil => simp [dget] at h
            | cons j js =>
              simp only [dget] at h
              split at h
              · cases h; exact hf.1
              · exact ih js hf.2 h
        exact this es js hf e
      have := DHits.hit (K := K) (H := H) (kws := js.zip ws) hw (Rep.dp 64 d v hf'.1 h1) (Rep.dp 64 e' w fe rw2) (fits_shaped hf'.1) (fits_shaped fe) ih
      rw [eqv_py 64 64 d e' hf'.1 fe] at this
      exact this
theorem dicEq_ok {K : PySem.W.Frag} {L : Addr → Prop} {H : Hp} {a b : D} {x y : V} {k : Bool} (h : dicEq a b = some k) (ra : SeeR K L H a x) (rb : SeeR K L H b y) : ∃ a b kvs kws r, x = .ref a ∧ y = .ref b ∧ Rd H a (.dK kvs) ∧ Rd H b (.dK kws) ∧ DHits K H kws kvs r ∧ k = (kvs.length == kws.length && r) := by
  cases a <;> try (simp only [dicEq, reduceCtorEq] at h; done)
  cases b <;> try (simp only [dicEq, reduceCtorEq] at h; done)
  rename_i ks ds js es
  simp only [dicEq] at h
  split at h
  case isFalse => cases h
  case isTrue hf =>
    rw [Bool.and_eq_true] at hf
    cases h
    obtain ⟨p, vs, rfl, tp, l1, rp⟩ := ra
    obtain ⟨q, ws, rfl, tq, l2, rq⟩ := rb
    refine ⟨p, q, _, _, _, rfl, rfl, tp, tq, hits_ok l2 rq hf.2 ks ds vs l1 rp hf.1, ?_⟩
    rw [List.length_zip, List.length_zip, rp.len, rq.len, ← l1, ← l2, Nat.min_self, Nat.min_self]
theorem o2_eq : Cmp2 X.K opEq (fun x y H Q => (rEq x y H Q ∨ (rEqD X.K x y H Q ∨ rLens X.K false x y H Q)) ∨ rDicB X.K id x y H Q) := by
  intro Acc ι μ H a b x y e Q S ra rb h q
  simp only [opEq] at h
  cases h0 : opEq0 a b with
  | some k =>
    rw [h0] at h
    exact .inl (o2_eq0 Acc ι μ H a b x y e Q S ra rb (by simp only [h0]; exact h) q)
  | none =>
    rw [h0] at h
    simp only at h
    cases hd : dicEq a b with
    | none => rw [hd] at h; cases h
    | some k =>
      rw [hd] at h
      cases h
      obtain ⟨p, p', kvs, kws, r, e1, e2, t1, t2, hh, ek⟩ := dicEq_ok hd ra rb
      refine .inr ⟨p, p', kvs, kws, r, e1, e2, t1, t2, hh, ?_⟩
      show Q (.bl (kvs.length == kws.length && r)) H
      rw [← ek]
      exact fin_dat S q rep_bl
theorem o2_ne : Cmp2 X.K (fun a b => (opEq a b).map (!·)) (fun x y H Q => (rNe x y H Q ∨ (rNeD X.K x y H Q ∨ rLens X.K true x y H Q)) ∨ rDicB X.K (!·) x y H Q) := by
  intro Acc ι μ H a b x y e Q S ra rb h q
  simp only [opEq] at h
  cases h0 : opEq0 a b with
  | some k =>
    rw [h0] at h
    exact .inl (o2_ne0 Acc ι μ H a b x y e Q S ra rb (by simp only [h0]; exact h) q)
  | none =>
    rw [h0] at h
    simp only at h
    cases hd : dicEq a b with
    | none => rw [hd] at h; cases h
    | some k =>
      rw [hd] at h
      cases h
      obtain ⟨p, p', kvs, kws, r, e1, e2, t1, t2, hh, ek⟩ := dicEq_ok hd ra rb
      refine .inr ⟨p, p', kvs, kws, r, e1, e2, t1, t2, hh, ?_⟩
      show Q (.bl (!(kvs.length == kws.length && r))) H
      rw [← ek]
      exact fin_dat S q rep_bl
end
/-- all comparisons -/
def opCmp (op : CmpOp) (a b : D) : Option Bool := match op with
  | .Eq => opEq a b
  | .NotEq => (opEq a b).map (!·)
  | .Lt => opI (fun i j => decide (i < j)) a b
  | .LtE => opI (fun i j => decide (i ≤ j)) a b
  | .Gt => opI (fun i j => decide (j < i)) a b
  | .GtE => opI (fun i j => decide (j ≤ i)) a b
  | .Is => opIs a b
  | .IsNot => (opIs a b).map (!·)
  | .In => opIn a b
  | .NotIn => (opIn a b).map (!·)
theorem cmp_ok (X : Cx) (hu : X.A.units + 65 < cLine) (op : CmpOp) : ∃ r, OpR X (compareOp op) r ∧ Cmp2 X.K (opCmp op) r := by
  cases op with
  | Eq => exact ⟨_, OpR.or (OpR.or op_eq (OpR.or (op_eqD (by omega)) (len_eq (by omega)))) (dic_eq (by omega)), o2_eq⟩
  | NotEq => exact ⟨_, OpR.or (OpR.or op_ne (OpR.or (op_neD (by omega)) (len_ne (by omega)))) (dic_ne (by omega)), o2_ne⟩
  | Lt => exact ⟨_, op_lt, o2_int⟩
  | LtE => exact ⟨_, op_le, o2_int⟩
  | Gt => exact ⟨_, op_gt, o2_int⟩
  | GtE => exact ⟨_, op_ge, o2_int⟩
  | Is => exact ⟨_, OpR.or op_isN op_is2, o2_is⟩
  | IsNot => exact ⟨_, OpR.or op_notN op_not2, o2_isnot⟩
  | In => exact ⟨_, or_in hu, o2_in⟩
  | NotIn => exact ⟨_, or_notIn hu, o2_notin⟩
end VM
/-! Truth, and/or/not, conditionals, chains; subscripts and slices. -/
namespace VM
open PySem L2 PyProof.Rows

/-! ### 1. truth -/
def tru (d : D) : Option Bool := match d with
  | .non => some false
  | .bl b => some b
  | .int i => some (i != 0)
  | .str x => if x.length ≤ LIM then some ((x.length : Int) != 0) else none
  | .tup ds => some (!ds.isEmpty)
  | .lst ds => some (!ds.isEmpty)
  | .dic _ _ => none
  | .dct _ _ => none
  | .scr ns => some (!ns.isEmpty)
theorem tru_ok' {K : PySem.W.Frag} {L : Addr → Prop} {H : Hp} {d : D} {v : V} {k : Bool} (r : SeeR K L H d v) (h : tru d = some k) : TruV K v H k := by
  have emp : ∀ {ds : List D} {vs : List V}, Reps K L H ds vs → (!ds.isEmpty) = !vs.isEmpty := fun {ds vs} r => by
    cases ds with
    | nil => rw [r.invN]; rfl
    | cons d ds => obtain ⟨v, rs, rfl, _⟩ := r.inv; rfl
  cases d with
  | non => cases h; rw [seeN r]; rfl
  | bl b => cases h; rw [seeB r]; rfl
  | int i => cases h; rw [seeI r]; rfl
  | str x =>
    simp only [tru] at h
    split at h
    · rename_i hl
      cases h
      rw [seeS r]
      exact ⟨lim_ok hl, rfl⟩
    · cases h
  | tup ds =>
    cases h
    obtain ⟨a, vs, rfl, t, r⟩ := seeT r
    exact .inr (.inl ⟨vs, t.sq, emp r⟩)
  | lst ds =>
    cases h
    obtain ⟨a, vs, rfl, t, r⟩ := r
    exact .inl ⟨vs, SqL.of t, emp r⟩
  | dic ks ds => cases h
  | dct ks ds => cases h
  | scr ns =>
    cases h
    obtain ⟨a, rfl, t⟩ := (by simpa only [SeeR, Rep] using r : ∃ a, v = .ref a ∧ LstN K L H a (ns.map V.int))
    refine .inl ⟨_, t.sq, ?_⟩
    cases ns <;> rfl
def truR (a : EV) (μ : Sto) : Res Bool := match a.see μ with
  | some d => match tru d with
    | some k => .ok k μ
    | none => .bad
  | none => .bad
def bTru (f : SE) : SB := fun F ρ μ => (f F ρ μ).bind truR
section
variable {K : PySem.W.Frag} {XC : Nat → Addr} {W : WX} {Acc : Addr → Prop} {ι : List Addr} {μ μ0 : Sto} {H H0 : Hp} {σ : L2.St}
theorem truR_ok {a : EV} {x : V} {Q : Bool → Hp → Prop} (t : Stp K Acc ι μ0 H0 ι μ H) (ra : EvR K (Liv Acc μ ι) ι H0 H a x) (h : wp relB K XC W Acc ι μ0 H0 σ (truR a μ) Q) : ∃ k, TruV K x H k ∧ Q k H := by
  unfold truR at h
  cases ea : a.see μ with
  | none => rw [ea] at h; exact h.elim
  | some d =>
    rw [ea] at h
    simp only at h
    cases et : tru d with
    | none => rw [et] at h; exact h.elim
    | some k =>
      rw [et] at h
      exact ⟨k, tru_ok' (see_ok t.sim ra ea) et, h k H t rfl⟩
end
section
variable {X : Cx} {XC : Nat → Addr} {F : Fns} {W : WX} {a b c : Expr} {rest : List Expr} {fa fb fc : SE} {ga gb gc : SB} {pos : Pos}
theorem ct_tru (ha : PE X a (rdE X.K XC F W fa)) (he : ∀ whole, isTrue a X.env whole = (do let v ← whole; standAt a.pos; holding [v] (truthy v))) : PT X a (rdB X.K XC F W (bTru fa)) :=
  PTimp (pt_truth ha he) fun σ H Q ⟨Acc, ι, ρ, μ, S, E, h⟩ => by
    refine rd.bind (.refl S) E h fun v μ1 x H1 _ t1 r1 h1 => ?_
    exact truR_ok t1 r1.1 h1
def bNot (g : SB) : SB := fun F ρ μ => (g F ρ μ).bind fun k μ1 => .ok (!k) μ1
theorem ct_not (ha : PT X a (rdB X.K XC F W ga)) : PT X (.UnaryOp .Not a pos) (rdB X.K XC F W (bNot ga)) :=
  PTimp (pt_not ha) fun σ H Q ⟨Acc, ι, ρ, μ, S, E, h⟩ => by
    refine rd.bind (.refl S) E h fun v μ1 x H1 _ t1 r1 h1 => ?_
    have e : x = v := r1
    subst e
    exact h1 _ H1 t1 rfl
def bAnd (f g : SB) : SB := fun F ρ μ => (f F ρ μ).bind fun k μ1 => match k with
  | true => g F ρ μ1
  | false => .ok false μ1
def bOr (f g : SB) : SB := fun F ρ μ => (f F ρ μ).bind fun k μ1 => match k with
  | true => .ok true μ1
  | false => g F ρ μ1
theorem cw_and1 (ha : PT X a (rdB X.K XC F W ga)) : PW X (.BoolOp .And [a] pos) (rdB X.K XC F W ga) := pw_and1 ha
theorem cw_or1 (ha : PT X a (rdB X.K XC F W ga)) : PW X (.BoolOp .Or [a] pos) (rdB X.K XC F W ga) := pw_or1 ha
theorem cw_and (ha : PT X a (rdB X.K XC F W ga)) (hb : PW X (.BoolOp .And (b :: rest) pos) (rdB X.K XC F W gb)) : PW X (.BoolOp .And (a :: b :: rest) pos) (rdB X.K XC F W (bAnd ga gb)) :=
  PWimp (pw_and ha hb) fun σ H Q ⟨Acc, ι, ρ, μ, S, E, h⟩ => by
    refine rd.bind (.refl S) E h fun k μ1 x H1 _ t1 r1 h1 => ?_
    have e : x = k := r1
    subst e
    cases x with
    | true => exact rd.last t1 (E.mv t1 S) h1
    | false => exact h1 false H1 t1 rfl
theorem cw_or (ha : PT X a (rdB X.K XC F W ga)) (hb : PW X (.BoolOp .Or (b :: rest) pos) (rdB X.K XC F W gb)) : PW X (.BoolOp .Or (a :: b :: rest) pos) (rdB X.K XC F W (bOr ga gb)) :=
  PWimp (pw_or ha hb) fun σ H Q ⟨Acc, ι, ρ, μ, S, E, h⟩ => by
    refine rd.bind (.refl S) E h fun k μ1 x H1 _ t1 r1 h1 => ?_
    have e : x = k := r1
    subst e
    cases x with
    | true => exact h1 true H1 t1 rfl
    | false => exact rd.last t1 (E.mv t1 S) h1
/-! ### 2. and, or, not as values; a if t else b -/
def eAnd (f g : SE) : SE := fun F ρ μ => (f F ρ μ).bind fun v μ1 => (truR v μ1).bind fun k μ2 => match k with
  | true => g F ρ μ2
  | false => .ok v μ2
def eOr (f g : SE) : SE := fun F ρ μ => (f F ρ μ).bind fun v μ1 => (truR v μ1).bind fun k μ2 => match k with
  | true => .ok v μ2
  | false => g F ρ μ2
theorem truR_bind {γ δ : Type} {K : PySem.W.Frag} {Rel2 : (Addr → Prop) → Sto → List Addr → Hp → Hp → γ → δ → Prop} {Acc : Addr → Prop} {ι : List Addr} {μ μ0 : Sto} {H H0 : Hp} {σ : L2.St} {v : EV} {x : V} {g : Bool → Sto → Res γ} {Q : δ → Hp → Prop} (t : Stp K Acc ι μ0 H0 ι μ H) (ra : EvR K (Liv Acc μ ι) ι H0 H v x)
    (h : wp Rel2 K XC W Acc ι μ0 H0 σ ((truR v μ).bind g) Q) : ∃ k, TruV K x H k ∧ wp Rel2 K XC W Acc ι μ0 H0 σ (g k μ) Q := by
  cases ea : v.see μ with
  | none => simp only [truR, ea, Res.bind] at h; exact h.elim
  | some d =>
    cases et : tru d with
    | none => simp only [truR, ea, et, Res.bind] at h; exact h.elim
    | some k =>
      simp only [truR, ea, et, Res.bind] at h
      exact ⟨k, tru_ok' (see_ok t.sim ra ea) et, h⟩
theorem c_and (ha : PE X a (rdE X.K XC F W fa)) (hb : PE X (.BoolOp .And (b :: rest) pos) (rdE X.K XC F W fb)) : PE X (.BoolOp .And (a :: b :: rest) pos) (rdE X.K XC F W (eAnd fa fb)) :=
  PEimp (pe_andT ha hb) fun σ H Q ⟨Acc, ι, ρ, μ, S, E, h⟩ => by
    refine rd.bind (.refl S) E h fun v μ1 x H1 _ t1 r1 h1 => ?_
    obtain ⟨k, e, h2⟩ := truR_bind t1 r1.1 h1
    refine ⟨k, e, ?_⟩
    cases k with
    | true => exact rd.last t1 (E.mv t1 S) h2
    | false => exact h2 x H1 t1 r1
theorem c_or (ha : PE X a (rdE X.K XC F W fa)) (hb : PE X (.BoolOp .Or (b :: rest) pos) (rdE X.K XC F W fb)) : PE X (.BoolOp .Or (a :: b :: rest) pos) (rdE X.K XC F W (eOr fa fb)) :=
  PEimp (pe_orT ha hb) fun σ H Q ⟨Acc, ι, ρ, μ, S, E, h⟩ => by
    refine rd.bind (.refl S) E h fun v μ1 x H1 _ t1 r1 h1 => ?_
    obtain ⟨k, e, h2⟩ := truR_bind t1 r1.1 h1
    refine ⟨k, e, ?_⟩
    cases k with
    | true => exact h2 x H1 t1 r1
    | false => exact rd.last t1 (E.mv t1 S) h2
def eNot (f : SE) : SE := fun F ρ μ => (f F ρ μ).bind fun v μ1 => (truR v μ1).bind fun k μ2 => .ok (.dat (.bl (!k))) μ2
theorem c_not (ha : PE X a (rdE X.K XC F W fa)) : PE X (.UnaryOp .Not a pos) (rdE X.K XC F W (eNot fa)) :=
  PEimp (pe_notT ha) fun σ H Q ⟨Acc, ι, ρ, μ, S, E, h⟩ => by
    refine rd.bind (.refl S) E h fun v μ1 x H1 _ t1 r1 h1 => ?_
    obtain ⟨k, e, h2⟩ := truR_bind t1 r1.1 h1
    exact ⟨k, e, h2 (.bl (!k)) H1 t1 ⟨rfl, trivial⟩⟩
def eNeg (f : SE) : SE := fun F ρ μ => (f F ρ μ).bind fun v μ1 => match v with
  | .dat (.int i) => .ok (.dat (.int (-i))) μ1
  | _ => .bad
theorem c_neg (ha : PE X a (rdE X.K XC F W fa)) : PE X (.UnaryOp .USub a pos) (rdE X.K XC F W (eNeg fa)) :=
  PEimp (pe_un un_neg ha) fun σ H Q ⟨Acc, ι, ρ, μ, S, E, h⟩ => by
    refine rd.bind (.refl S) E h fun v μ1 x H1 _ t1 r1 h1 => ?_
    split at h1
    · rename_i i _
      have e : x = .int i := r1.1
      subst e
      exact ⟨i, rfl, h1 (.int (-i)) H1 t1 ⟨rfl, trivial⟩⟩
    · exact h1.elim
def eIf (t : SB) (f g : SE) : SE := fun F ρ μ => (t F ρ μ).bind fun k μ1 => match k with
  | true => f F ρ μ1
  | false => g F ρ μ1
theorem c_if (ht : PT X c (rdB X.K XC F W gc)) (ha : PE X a (rdE X.K XC F W fa)) (hb : PE X b (rdE X.K XC F W fb)) : PE X (.IfExp c a b pos) (rdE X.K XC F W (eIf gc fa fb)) :=
  PEimp (pe_ifExp ht ha hb) fun σ H Q ⟨Acc, ι, ρ, μ, S, E, h⟩ => by
    refine rd.bind (.refl S) E h fun k μ1 x H1 _ t1 r1 h1 => ?_
    have e : x = k := r1
    subst e
    cases x with
    | true => exact rd.last t1 (E.mv t1 S) h1
    | false => exact rd.last t1 (E.mv t1 S) h1
def bIf (t f g : SB) : SB := fun F ρ μ => (t F ρ μ).bind fun k μ1 => match k with
  | true => f F ρ μ1
  | false => g F ρ μ1
theorem ct_if (ht : PT X c (rdB X.K XC F W gc)) (ha : PT X a (rdB X.K XC F W ga)) (hb : PT X b (rdB X.K XC F W gb)) : PT X (.IfExp c a b pos) (rdB X.K XC F W (bIf gc ga gb)) := by
  refine ⟨fun pins s σ H Q I ⟨Acc, ι, ρ, μ, S, E, h⟩ => ?_⟩
  have h' : rdB X.K XC F W gc σ H fun k H1 => if k = true then rdB X.K XC F W ga σ H1 Q else rdB X.K XC F W gb σ H1 Q := by
    refine rd.bind (.refl S) E h fun k μ1 x H1 _ t1 r1 h1 => ?_
    have e : x = k := r1
    subst e
    cases x with
    | true => exact rd.last t1 (E.mv t1 S) h1
    | false => exact rd.last t1 (E.mv t1 S) h1
  refine PyProof.Rows.isTrue_IfExp (thn (ht.run pins s σ H _ I h') fun d s1 ⟨H1, I1, q1⟩ => ?_)
  cases d with
  | true => exact ha.run pins s1 σ H1 Q I1 q1
  | false => exact hb.run pins s1 σ H1 Q I1 q1
end

/-! ### 3. a op b op' c -/
def eChain (f g : D → D → Option Bool) (fa fb fc : SE) : SE := fun F ρ μ => (fa F ρ μ).bind fun a μ1 => (fb F ρ μ1).bind fun b μ2 => (lift2B f a b μ2).bind fun k μ3 => match k with
  | true => (fc F ρ μ3).bind fun c μ4 => lift2 (fun x y => (g x y).map fun k => .dat (.bl k)) b c μ4
  | false => .ok (.dat (.bl false)) μ3
def bChain (f g : D → D → Option Bool) (fa fb fc : SE) : SB := fun F ρ μ => (fa F ρ μ).bind fun a μ1 => (fb F ρ μ1).bind fun b μ2 => (lift2B f a b μ2).bind fun k μ3 => match k with
  | true => (fc F ρ μ3).bind fun c μ4 => lift2B g b c μ4
  | false => .ok false μ3
section
variable {K : PySem.W.Frag} {XC : Nat → Addr} {W : WX} {Acc : Addr → Prop} {ι : List Addr} {μ μ0 : Sto} {H H0 : Hp} {σ : L2.St}
theorem lift2B_bind {γ δ : Type} {Rel2 : (Addr → Prop) → Sto → List Addr → Hp → Hp → γ → δ → Prop} {f : D → D → Option Bool} {r : R2} {a b : EV} {x y : V} {g : Bool → Sto → Res γ} {Q : δ → Hp → Prop} {P : V → Hp → Prop} (ho : Cmp2 K f r) (t : Stp K Acc ι μ0 H0 ι μ H)
    (ra : EvR K (Liv Acc μ ι) ι H0 H a x) (rb : EvR K (Liv Acc μ ι) ι H0 H b y) (h : wp Rel2 K XC W Acc ι μ0 H0 σ ((lift2B f a b μ).bind g) Q)
    (k : ∀ c H', Stp K Acc ι μ H ι μ H' → wp Rel2 K XC W Acc ι μ0 H0 σ (g c μ) Q → P (.bl c) H') : r x y H P := by
  cases ea : a.see μ with
  | none => simp only [lift2B, ea, Res.bind] at h; exact h.elim
  | some da =>
    cases eb : b.see μ with
    | none => simp only [lift2B, ea, eb, Res.bind] at h; exact h.elim
    | some db =>
      cases ef : f da db with
      | none => simp only [lift2B, ea, eb, ef, Res.bind] at h; exact h.elim
      | some e =>
        simp only [lift2B, ea, eb, ef, Res.bind] at h
        exact ho Acc ι μ H da db x y (.dat (.bl e)) _ t.sim (see_ok t.sim ra ea) (see_ok t.sim rb eb) (by show Option.map _ (f da db) = _; rw [ef]; rfl) fun v H' t' rv => by
          have e' : v = .bl e := rv.1
          subst e'
          exact k e H' t' h
end
section
variable {X : Cx} {XC : Nat → Addr} {F : Fns} {W : WX} {a b c : Expr} {fa fb fc : SE} {pos : Pos} {op op' : CmpOp} {f g : D → D → Option Bool} {r r' : R2}
theorem c_chain (hr : OpR X (compareOp op) r) (ho : Cmp2 X.K f r) (hr' : OpR X (compareOp op') r') (ho' : Cmp2 X.K g r') (ha : PE X a (rdE X.K XC F W fa)) (hb : PE X b (rdE X.K XC F W fb)) (hc : PE X c (rdE X.K XC F W fc)) (hm : lastMarks [op, op'] [b, c] = false) :
    PE X (.Compare a [op, op'] [b, c] pos) (rdE X.K XC F W (eChain f g fa fb fc)) :=
  PEimp (pe_chain hr hr' ha hb hc hm) fun σ H Q ⟨Acc, ι, ρ, μ, S, E, h⟩ => by
    refine rd.bind (.refl S) E h fun va μ1 x H1 _ t1 r1 h1 => ?_
    refine rd.bind t1 (E.mv t1 S) h1 fun vb μ2 y H2 _ t2 r2 h2 => ?_
    refine lift2B_bind ho (t1.trans t2) (EvR.mv t1 S t2 r1.1 rfl) (EvR.back t1 r2.1) h2 fun k H3 t3 h3 => ⟨k, rfl, ?_⟩
    have t03 := (t1.trans t2).trans t3
    cases k with
    | false => exact h3 (.bl false) H3 t03 ⟨rfl, trivial⟩
    | true =>
      refine rd.bind t03 (E.mv t03 S) h3 fun vc μ4 z H4 _ t4 r4 h4 => ?_
      exact lift2_ok ho' S (t03.trans t4) (EvR.back t1 (EvR.mv t2 t1.sim (t3.trans t4) r2.1 rfl)) (EvR.back t03 r4.1) h4
theorem ct_chain (hr : OpR X (compareOp op) r) (ho : Cmp2 X.K f r) (hr' : OpR X (compareOp op') r') (ho' : Cmp2 X.K g r') (ha : PE X a (rdE X.K XC F W fa)) (hb : PE X b (rdE X.K XC F W fb)) (hc : PE X c (rdE X.K XC F W fc)) (hm : lastMarks [op, op'] [b, c] = false) :
    PT X (.Compare a [op, op'] [b, c] pos) (rdB X.K XC F W (bChain f g fa fb fc)) :=
  PTimp (pt_chain hr hr' ha hb hc hm) fun σ H Q ⟨Acc, ι, ρ, μ, S, E, h⟩ => by
    refine rd.bind (.refl S) E h fun va μ1 x H1 _ t1 r1 h1 => ?_
    refine rd.bind t1 (E.mv t1 S) h1 fun vb μ2 y H2 _ t2 r2 h2 => ?_
    refine lift2B_bind ho (t1.trans t2) (EvR.mv t1 S t2 r1.1 rfl) (EvR.back t1 r2.1) h2 fun k H3 t3 h3 => ⟨k, rfl, ?_⟩
    have t03 := (t1.trans t2).trans t3
    cases k with
    | false => exact ⟨false, rfl, h3 false H3 t03 rfl⟩
    | true =>
      refine rd.bind t03 (E.mv t03 S) h3 fun vc μ4 z H4 _ t4 r4 h4 => ?_
      exact lift2B_ok ho' S (t03.trans t4) (EvR.back t1 (EvR.mv t2 t1.sim (t3.trans t4) r2.1 rfl)) (EvR.back t03 r4.1) h4
end

/-! ### 4. subscripts -/
def opIx (a b : D) : Option EV := match a, b with
  | .lst ds, .int i => (atI ds i).map .dat
  | .tup ds, .int i => (atI ds i).map .dat
  | .str x, .int i => if x.length ≤ LIM then (atI x.cps.toList i).map fun c => .dat (.str ⟨#[c]⟩) else none
  | .scr ns, .int i => (atI ns i).map fun n => .dat (.int n)
  | .dic ks ds, b => match b.key with
    | some k => (dget ks ds k).map .dat
    | none => none
  | .dct ks ds, b => match b.tkey with
    | some k => (tget ks ds k).map .dat
    | none => none
  | _, _ => none
section
variable {K : PySem.W.Frag} {L : Addr → Prop} {H : Hp}
theorem Reps.atI {ds : List D} {vs : List V} {i : Int} {d : D} (r : Reps K L H ds vs) (h : L2.atI ds i = some d) : ∃ v, L2.atI vs i = some v ∧ Rep K L H d v := by
  unfold L2.atI at h ⊢
  rw [r.len]
  cases e : ixN ds.length i with
  | none => rw [e] at h; cases h
  | some j =>
    rw [e] at h
    exact r.get h
theorem atI_map {α β : Type} {f : α → β} {xs : List α} {i : Int} {a : α} (h : L2.atI xs i = some a) : L2.atI (xs.map f) i = some (f a) := by
  unfold L2.atI at h ⊢
  rw [List.length_map]
  cases e : ixN xs.length i with
  | none => rw [e] at h; cases h
  | some j =>
    rw [e] at h
    show (xs.map f)[j]? = _
    rw [List.getElem?_map, (show xs[j]? = some a from h)] <;> rfl
end
def rIxD : R2 := fun x y H Q => ∃ a v, x = .ref a ∧ DGet H a y (some v) ∧ Q v H
section
variable {X : Cx}
theorem ix_dic (hu : X.A.units + 1 < cLine) : IxR X rIxD := by
  intro value slice pins s σ H x y v u Q I rx ry h hs
  obtain ⟨a, w', rfl, g, q⟩ := h
  cases (show v = Value.ref a from rx)
  exact tail_any (dict_typeIs I g) PySem.F.slot_dict_getitem.lookup (d_getItem hu I g ry fun w2 s' I' rw' => ⟨w', H, I', rw', q⟩) hs
theorem or_ix (hu : X.A.units + 1 < cLine) : IxR X (fun x y H Q => rIx X.K x y H Q ∨ rIxD x y H Q) := IxR.or ix_seq (ix_dic hu)
theorem o2_ix : Op2 X.K opIx (fun x y H Q => rIx X.K x y H Q ∨ rIxD x y H Q) := by
  intro Acc ι μ H a b x y e Q S ra rb h q
  cases a <;> simp only [opIx, reduceCtorEq] at h
  · rename_i z
    cases b <;> simp only [reduceCtorEq] at h
    rename_i i
    split at h
    · rename_i hl
      cases hc : atI z.cps.toList i with
      | none => rw [hc] at h; cases h
      | some c =>
        rw [hc] at h; cases h
        exact .inl (.inr (.inr ⟨z, i, c, seeS ra, seeI rb, lim_ok hl, hc, fin_dat S q rep_str⟩))
    · cases h
  · rename_i ds
    cases b <;> simp only [reduceCtorEq] at h
    rename_i i
    obtain ⟨p, vs, rfl, tp, rp⟩ := seeT ra
    cases hc : atI ds i with
    | none => rw [hc] at h; cases h
    | some c =>
      rw [hc] at h; cases h
      obtain ⟨v, e1, rv⟩ := rp.atI hc
      exact .inl (.inr (.inl ⟨p, vs, i, v, rfl, seeI rb, tp.sq, e1, fin_dat S q rv⟩))
  · rename_i ds
    cases b <;> simp only [reduceCtorEq] at h
    rename_i i
    obtain ⟨p, vs, rfl, tp, rp⟩ := seeL ra
    cases hc : atI ds i with
    | none => rw [hc] at h; cases h
    | some c =>
      rw [hc] at h; cases h
      obtain ⟨v, e1, rv⟩ := rp.atI hc
      exact .inl (.inl ⟨p, vs, i, v, rfl, seeI rb, SqL.of tp, e1, fin_dat S q rv⟩)
  · rename_i ks ds
    cases hk : b.key with
    | none => rw [hk] at h; cases h
    | some k =>
      rw [hk] at h
      simp only at h
      obtain ⟨p, vs, rfl, tp, hl, rp⟩ := ra
      have hg := val_get (k := k) hl rp
      cases hd : dget ks ds k with
      | none => rw [hd] at h; cases h
      | some d =>
        rw [hd] at h hg; cases h
        obtain ⟨v, e1, rv⟩ := hg
        exact .inr ⟨p, v, rfl, by rw [key_rep hk rb, ← e1]; exact (.inl ⟨_, _, tp, rfl, rfl⟩), fin_dat S q rv⟩
  · rename_i ks ds
    cases hk : b.tkey with
    | none => rw [hk] at h; cases h
    | some k =>
      rw [hk] at h
      simp only at h
      obtain ⟨p, vs, rfl, tp, hl, rp⟩ := ra
      have hg := val_getT (k := k) hl rp
      cases hd : tget ks ds k with
      | none => rw [hd] at h; cases h
      | some d =>
        rw [hd] at h hg; cases h
        obtain ⟨v, e1, rv⟩ := hg
        obtain ⟨b', rfl, eb⟩ := tkey_rep hk rb
        exact .inr ⟨p, v, rfl, by rw [← e1]; exact (.inr ⟨_, _, b', .inl tp, rfl, eb, rfl⟩), fin_dat S q rv⟩
  · rename_i ns
    cases b <;> simp only [reduceCtorEq] at h
    rename_i i
    obtain ⟨p, rfl, tp⟩ := (by simpa only [SeeR, Rep] using ra : ∃ a, x = .ref a ∧ LstN X.K (Liv Acc μ ι) H a (ns.map V.int))
    cases hc : atI ns i with
    | none => rw [hc] at h; cases h
    | some c =>
      rw [hc] at h; cases h
      exact .inl (.inl ⟨p, _, i, .int c, rfl, seeI rb, tp.sq, atI_map hc, fin_dat S q rep_int⟩)
end
def eIx (f g : SE) : SE := fun F ρ μ => (f F ρ μ).bind fun a μ1 => (g F ρ μ1).bind fun b μ2 => lift2 opIx a b μ2
section
variable {X : Cx} {XC : Nat → Addr} {F : Fns} {W : WX} {a b : Expr} {fa fb : SE} {pos : Pos}
theorem c_ix (hu : X.A.units + 1 < cLine) (ha : PE X a (rdE X.K XC F W fa)) (hb : PE X b (rdE X.K XC F W fb)) (hs : PlainIx b) : PE X (.Subscript a b pos) (rdE X.K XC F W (eIx fa fb)) :=
  PEimp (pe_ix (or_ix hu) ha hb hs) fun _ _ _ h => two_ok o2_ix h
end

/-! ### 5. slices -/
def cutD (ds : List D) (lo hi : Option Int) : List D := (ds.drop (HT.sIx ds.length 0 lo)).take (HT.sIx ds.length ds.length hi - HT.sIx ds.length 0 lo)
def opSl (a : D) (lo hi : Option Int) : Option EV := match a with
  | .lst ds => some (.new (.lst (cutD ds lo hi)))
  | .tup ds => some (.dat (.tup (cutD ds lo hi)))
  | .str z => if z.length ≤ LIM then some (.dat (.str (cutS z lo hi))) else none
  | .scr ns => some (.new (.lst (cutD (ns.map .int) lo hi)))
  | _ => none
theorem reps_ints {K : PySem.W.Frag} {L : Addr → Prop} {H : Hp} : ∀ ns : List Int, Reps K L H (ns.map D.int) (ns.map V.int)
  | [] => Reps.nil
  | n :: ns => Reps.cons rep_int (reps_ints ns)
theorem Reps.cut {K : PySem.W.Frag} {L : Addr → Prop} {H : Hp} {ds : List D} {vs : List V} (r : Reps K L H ds vs) (lo hi : Option Int) : Reps K L H (cutD ds lo hi) (cutV vs lo hi) := by
  unfold cutD cutV
  rw [r.len]
  exact (r.drop _).take _
def oNone : SOp := fun _ _ μ => .ok none μ
def oSome (f : SE) : SOp := fun F ρ μ => (f F ρ μ).bind fun v μ1 => match v with
  | .dat (.int i) => .ok (some i) μ1
  | _ => .bad
def slR (lo hi : Option Int) (a : EV) (μ : Sto) : Res EV := match a.see μ with
  | some d => match opSl d lo hi with
    | some e => .ok e μ
    | none => .bad
  | none => .bad
def eSl (f : SE) (l h : SOp) : SE := fun F ρ μ => (f F ρ μ).bind fun a μ1 => (l F ρ μ1).bind fun lo μ2 => (h F ρ μ2).bind fun hi μ3 => slR lo hi a μ3
section
variable {X : Cx} {XC : Nat → Addr} {F : Fns} {W : WX} {a e : Expr} {lo hi : Option Expr} {fa : SE} {fl fh : SOp} {pos p2 : Pos}
theorem POimp {e : Option Expr} {t t' : TO} (h : PO X e t) (i : ∀ σ H Q, t' σ H Q → t σ H Q) : PO X e t' := ⟨fun pins s σ H Q I q => h.run pins s σ H Q I (i σ H Q q)⟩
theorem co_none : PO X none (rdO X.K XC F W oNone) := POimp po_none fun σ H Q ⟨Acc, ι, ρ, μ, S, E, h⟩ => h none H (.refl S) rfl
theorem co_some (he : PE X e (rdE X.K XC F W fa)) : PO X (some e) (rdO X.K XC F W (oSome fa)) := POimp (po_some he) fun σ H Q ⟨Acc, ι, ρ, μ, S, E, h⟩ => by
  refine rd.bind (.refl S) E h fun v μ1 x H1 _ t1 r1 h1 => ?_
  split at h1
  · rename_i i _
    exact ⟨i, r1.1, h1 (some i) H1 t1 rfl⟩
  · exact h1.elim
def rSlAll (K : PySem.W.Frag) : V → Option Int → Option Int → Hp → VK → Prop := fun x lo hi H Q => (rSlL K x lo hi H Q ∨ rSlA K x lo hi H Q) ∨ rSlS x lo hi H Q
theorem or_sl : SlR X (rSlAll X.K) := SlR.or (SlR.or sl_list sl_tupA) sl_str
theorem slR_ok {K : PySem.W.Frag} {Acc : Addr → Prop} {ι : List Addr} {μ μ0 : Sto} {H H0 : Hp} {σ : L2.St} {v : EV} {x : V} {lo hi : Option Int} {Q : VK} (t : Stp K Acc ι μ0 H0 ι μ H) (ra : EvR K (Liv Acc μ ι) ι H0 H v x)
    (h : wp (relE K) K XC W Acc ι μ0 H0 σ (slR lo hi v μ) Q) : rSlAll K x lo hi H Q := by
  unfold slR at h
  cases ea : v.see μ with
  | none => rw [ea] at h; exact h.elim
  | some d =>
    rw [ea] at h
    simp only at h
    have r := see_ok t.sim ra ea
    cases d <;> simp only [opSl] at h
    · exact h.elim
    · exact h.elim
    · exact h.elim
    · rename_i z
      by_cases hl : z.length ≤ LIM
      · rw [if_pos hl] at h
        exact .inr ⟨z, seeS r, lim_ok hl, h (.str (cutS z lo hi)) H t ⟨rfl, trivial⟩⟩
      · rw [if_neg hl] at h; exact h.elim
    · rename_i ds
      obtain ⟨p, vs, rfl, tp, rp⟩ := seeT r
      refine .inl (.inr ⟨p, vs, rfl, tp.sq, fun e => ?_, fun _ p2 n => h (.ref p2) _ (t.trans (t.sim.up n _)) ⟨t.sim.newT n (rp.cut lo hi), trivial⟩⟩)
      refine h (.ref p) H t ⟨?_, trivial⟩
      have ec : cutD ds lo hi = ds := by
        unfold cutD
        rw [← rp.len, e.1, e.2, List.drop_zero, Nat.sub_zero, rp.len, List.take_length]
      show Rep K _ H (.tup (cutD ds lo hi)) (.ref p)
      rw [ec]
      simp only [Rep]
      exact ⟨p, vs, rfl, tp, rp⟩
    · rename_i ds
      obtain ⟨p, vs, rfl, tp, rp⟩ := r
      exact .inl (.inl ⟨p, vs, rfl, SqL.of tp, fun p2 n => h (.ref p2) _ (t.trans (t.sim.up n _)) ⟨⟨p2, rfl, t.back n, t.sim.newL n (rp.cut lo hi)⟩, t.sim.ownN n (rp.cut lo hi)⟩⟩)
    · exact h.elim
    · exact h.elim
    · rename_i ns
      obtain ⟨p, rfl, tp⟩ := (by simpa only [SeeR, Rep] using r : ∃ a, x = .ref a ∧ LstN K (Liv Acc μ ι) H a (ns.map V.int))
      have rp : Reps K (Liv Acc μ ι) H (ns.map D.int) (ns.map V.int) := reps_ints ns
      exact .inl (.inl ⟨p, _, rfl, tp.sq, fun p2 n => h (.ref p2) _ (t.trans (t.sim.up n _)) ⟨⟨p2, rfl, t.back n, t.sim.newL n (rp.cut lo hi)⟩, t.sim.ownN n (rp.cut lo hi)⟩⟩)
theorem c_sl (ha : PE X a (rdE X.K XC F W fa)) (hl : PO X lo (rdO X.K XC F W fl)) (hh : PO X hi (rdO X.K XC F W fh)) : PE X (.Subscript a (.Slice lo hi none p2) pos) (rdE X.K XC F W (eSl fa fl fh)) :=
  PEimp (pe_slice or_sl ha hl hh) fun σ H Q ⟨Acc, ι, ρ, μ, S, E, h⟩ => by
    refine rd.bind (.refl S) E h fun v μ1 x H1 _ t1 r1 h1 => ?_
    refine rd.bind t1 (E.mv t1 S) h1 fun l μ2 y H2 _ t2 r2 h2 => ?_
    have t02 := t1.trans t2
    refine rd.bind t02 (E.mv t02 S) h2 fun u μ3 z H3 _ t3 r3 h3 => ?_
    have e1 : y = l := r2
    have e2 : z = u := r3
    subst e1 e2
    exact slR_ok (t02.trans t3) (EvR.mv t1 S (t2.trans t3) r1.1 rfl) h3
end
end VM
/-! Calls of built-ins. -/
namespace VM
open PySem L2 PyProof.Rows

/-! ### 1. the general form -/
def sees : List EV → Sto → Option (List D)
  | [], _ => some []
  | v :: vs, μ => match v.see μ, sees vs μ with
    | some d, some ds => some (d :: ds)
    | _, _ => none
def SeesR (K : PySem.W.Frag) (L : Addr → Prop) (H : Hp) : List D → List V → Prop
  | [], vs => vs = []
  | d :: ds, vs => ∃ v r, vs = v :: r ∧ SeeR K L H d v ∧ SeesR K L H ds r
theorem sees_ok {K : PySem.W.Frag} {Acc : Addr → Prop} {ι : List Addr} {μ : Sto} {H H0 : Hp} (S : Sim K Acc μ ι H) : ∀ {es : List EV} {ds : List D} {vs : List V}, EvsR K (Liv Acc μ ι) ι H0 H es vs → sees es μ = some ds → SeesR K (Liv Acc μ ι) H ds vs
  | [], ds, vs, r, h => by cases h; exact r
  | e :: es, ds, vs, r, h => by
    obtain ⟨v, rs, rfl, h1, h2⟩ := r
    simp only [sees] at h
    cases ea : e.see μ with
    | none => rw [ea] at h; simp at h
    | some d =>
      cases eb : sees es μ with
      | none => rw [ea, eb] at h; simp at h
      | some ds' =>
        rw [ea, eb] at h
        simp only at h
        cases h
        exact ⟨v, rs, rfl, see_ok S h1 ea, sees_ok S h2 eb⟩
def liftN (f : List D → Option EV) (vs : List EV) (μ : Sto) : Res EV := match sees vs μ with
  | some ds => match f ds with
    | some e => .ok e μ
    | none => .bad
  | none => .bad
def eCb (f : List D → Option EV) (fa : SA) : SE := fun F ρ μ => (fa F ρ μ).bind fun vs μ1 => liftN f vs μ1
/-- what a call on values must give -/
def OpN (K : PySem.W.Frag) (f : List D → Option EV) (r : List V → Hp → VK → Prop) : Prop :=
  ∀ (Acc : Addr → Prop) (ι : List Addr) (μ : Sto) (H : Hp) (ds : List D) (xs : List V) (e : EV) (Q : VK), Sim K Acc μ ι H → SeesR K (Liv Acc μ ι) H ds xs → f ds = some e →
    (∀ v H', Stp K Acc ι μ H ι μ H' → relE K Acc μ ι H H' e v → Q v H') → r xs H Q
section
variable {X : Cx} {XC : Nat → Addr} {F : Fns} {W : WX} {x : Str} {p pos : Pos} {e : Expr} {es : List Expr} {fa : SA} {id T : String} {f : List D → Option EV} {r : List V → Hp → VK → Prop}
theorem liftN_ok {K : PySem.W.Frag} {Acc : Addr → Prop} {ι : List Addr} {μ μ0 : Sto} {H H0 : Hp} {σ : L2.St} {vs : List EV} {xs : List V} {Q : VK} (ho : OpN K f r) (t : Stp K Acc ι μ0 H0 ι μ H) (ra : EvsR K (Liv Acc μ ι) ι H0 H vs xs)
    (h : wp (relE K) K XC W Acc ι μ0 H0 σ (liftN f vs μ) Q) : r xs H Q := by
  unfold liftN at h
  cases ea : sees vs μ with
  | none => rw [ea] at h; exact h.elim
  | some ds =>
    rw [ea] at h
    simp only at h
    cases ef : f ds with
    | none => rw [ef] at h; exact h.elim
    | some e =>
      rw [ef] at h
      exact ho Acc ι μ H ds xs e Q t.sim (sees_ok t.sim ra ea) ef fun v H' t' rv => h v H' (t.trans t') ⟨EvR.back t rv.1, rv.2⟩
theorem callN_ok {K : PySem.W.Frag} {σ : L2.St} {H : Hp} {Q : VK} (ho : OpN K f r) (h : rdE K XC F W (eCb f fa) σ H Q) : tCB r (rdA K XC F W fa) σ H Q := by
  obtain ⟨Acc, ι, ρ, μ, S, E, h⟩ := h
  refine rd.bind (.refl S) E h fun vs μ1 xs H1 _ t1 r1 h1 => ?_
  exact liftN_ok ho t1 r1 h1
theorem c_callB (hc : CallR X (.builtin id) r) (ho : OpN X.K f r) (hg : Gl X x) (hm : X.mg x = none) (hv : bootBuiltins x = some (.builtin id)) (ha : PA X (e :: es) (rdA X.K XC F W fa)) (hn : x ≠ "__name__") (hdb : (x == ("__debug__" : Str)) = false)
    (he : starEach (e :: es) X.env = (false, eval e X.env) :: starEach es X.env) (hpl : (backTo pos (starEach es X.env)).any (·.1) = false) : PE X (.Call (.Name x p) (e :: es) [] pos) (rdE X.K XC F W (eCb f fa)) :=
  PEimp (pe_callB hc hg hm hv ha hn hdb he hpl) fun _ _ _ h => callN_ok ho h
theorem c_callTy (hc : CallR X (.type T) r) (ho : OpN X.K f r) (hg : Gl X x) (hm : X.mg x = none) (hv : bootBuiltins x = some (.type T)) (ha : PA X (e :: es) (rdA X.K XC F W fa)) (hn : x ≠ "__name__") (hdb : (x == ("__debug__" : Str)) = false)
    (he : starEach (e :: es) X.env = (false, eval e X.env) :: starEach es X.env) (hpl : (backTo pos (starEach es X.env)).any (·.1) = false) : PE X (.Call (.Name x p) (e :: es) [] pos) (rdE X.K XC F W (eCb f fa)) :=
  PEimp (pe_callTy hc hg hm hv ha hn hdb he hpl) fun _ _ _ h => callN_ok ho h
end

/-! ### 2. isinstance of a built-in type -/
inductive Ty where
  | int | bool | str | tuple | list | dict
def Ty.name : Ty → String
  | .int => "int" | .bool => "bool" | .str => "str" | .tuple => "tuple" | .list => "list" | .dict => "dict"
def isi (T : Ty) (d : D) : Bool := match T, d with
  | .int, .int _ => true
  | .int, .bl _ => true
  | .bool, .bl _ => true
  | .str, .str _ => true
  | .tuple, .tup _ => true
  | .list, .lst _ => true
  | .list, .scr _ => true
  | .dict, .dic _ _ => true
  | .dict, .dct _ _ => true
  | _, _ => false
def tyD : D → String
  | .non => "NoneType" | .bl _ => "bool" | .int _ => "int" | .str _ => "str" | .tup _ => "tuple" | .lst _ => "list" | .dic _ _ => "dict" | .dct _ _ => "dict" | .scr _ => "list"
theorem isi_kit (K : PySem.W.Frag) (T : Ty) (d : D) : PySem.W.kitOne K (.type (tyD d)) (.type T.name) = some (isi T d) := by
  have t : ∀ T : Ty, kitB "NoneType" T.name = some (isi T .non) ∧ kitB "bool" T.name = some (isi T (.bl true)) ∧ kitB "int" T.name = some (isi T (.int 0)) ∧ kitB "str" T.name = some (isi T (.str ⟨#[]⟩)) ∧
      kitB "tuple" T.name = some (isi T (.tup [])) ∧ kitB "list" T.name = some (isi T (.lst [])) ∧ kitB "dict" T.name = some (isi T (.dic [] [])) ∧ kitB "list" T.name = some (isi T (.scr [])) := by
    intro T
    cases T <;> decide +kernel
  obtain ⟨h1, h2, h3, h4, h5, h6, h7, h8⟩ := t T
  cases d with
  | non => exact kit_ty h1
  | bl _ => cases T <;> exact kit_ty h2
  | int _ => cases T <;> exact kit_ty h3
  | str _ => cases T <;> exact kit_ty h4
  | tup _ => cases T <;> exact kit_ty h5
  | lst _ => cases T <;> exact kit_ty h6
  | dic _ _ => cases T <;> exact kit_ty h7
  | dct _ _ => cases T <;> exact kit_ty h7
  | scr _ => cases T <;> exact kit_ty h8
section
variable {K : PySem.W.Frag} {L : Addr → Prop} {H : Hp}
theorem tyx_rd {a : Addr} {u : HO} {vs : List V} (h : TupN K L H a vs) : TyX K H (.ref a) (.type "tuple") := by
  exact .base (.tup h.1)
theorem tyx_of {d : D} {v : V} (r : SeeR K L H d v) : TyX K H v (.type (tyD d)) := by
  cases d with
  | non => rw [seeN r]; exact .base .non
  | bl b => rw [seeB r]; exact .base (.bl b)
  | int b => rw [seeI r]; exact .base (.int b)
  | str b => rw [seeS r]; exact .base (.str b)
  | tup ds => obtain ⟨a, vs, rfl, t, _⟩ := seeT r; exact tyx_rd (u := .tup vs) t
  | lst ds => obtain ⟨a, vs, rfl, t, _⟩ := r; exact .base (.lst t)
  | dic ks ds => obtain ⟨a, vs, rfl, t | ⟨o, t⟩, _⟩ := r <;> first | exact .base (.dK t) | exact .fDict t
  | dct ks ds => obtain ⟨a, vs, rfl, t, _⟩ := r; exact .base (.dT t)
  | scr ns =>
    obtain ⟨a, rfl, t⟩ := (by simpa only [SeeR, Rep] using r : ∃ a, v = .ref a ∧ LstN K L H a (ns.map V.int))
    rcases t with ⟨h, _⟩ | ⟨o, its, n, h, c, _⟩
    · rcases h with h | ⟨o, h⟩
      · exact .base (.lst h)
      · exact .base (.frz h)
    · exact .kList h c
end
def eIsi (T : Ty) (fa : SE) : SE := fun F ρ μ => (fa F ρ μ).bind fun v μ1 => match v.see μ1 with
  | some d => .ok (.dat (.bl (isi T d))) μ1
  | none => .bad
/-- isinstance(a, (T1, T2, ..)) -/
def eIsiT (Ts : List Ty) (fa : SE) : SE := fun F ρ μ => (fa F ρ μ).bind fun v μ1 => match v.see μ1 with
  | some d => .ok (.dat (.bl (Ts.any fun T => isi T d))) μ1
  | none => .bad
section
variable {X : Cx} {XC : Nat → Addr} {F : Fns} {W : WX} {x t : Str} {p p1 p2 pos : Pos} {e : Expr} {fa : SE} {T : Ty}
theorem ty_bltn (hg : Gl X t) (hm : X.mg t = none) (hv : bootBuiltins t = some (.type T.name)) (hn : t ≠ "__name__") (hdb : (t == ("__debug__" : Str)) = false) : PE X (.Name t p) (tC (.ty T.name)) := pe_bltn hg hm hv rfl hn hdb
theorem c_isi (hg : Gl X "isinstance") (hm : X.mg "isinstance" = none) (ht : PE X (.Name t p1) (tC (.ty T.name))) (ha : PE X e (rdE X.K XC F W fa)) (he : starEach [e, .Name t p1] X.env = (false, eval e X.env) :: starEach [.Name t p1] X.env)
    : PE X (.Call (.Name "isinstance" p) [e, .Name t p1] [] pos) (rdE X.K XC F W (eIsi T fa)) :=
  PEimp (pe_callB call_isi hg hm (by decide +kernel) (pa_cons ha (pa_cons ht pa_nil) he) (by decide) (by decide) he (by rfl)) fun σ H Q ⟨Acc, ι, ρ, μ, S, E, h⟩ => by
    refine rd.bind (.refl S) E h fun v μ1 x H1 _ t1 r1 h1 => ?_
    cases ea : v.see μ1 with
    | none => rw [ea] at h1; exact h1.elim
    | some d =>
      rw [ea] at h1
      exact ⟨x, .ty T.name, .type (tyD d), .type T.name, isi T d, rfl, .ty _, tyx_of (see_ok t1.sim r1.1 ea), isi_kit X.K T d, h1 (.bl (isi T d)) H1 t1 ⟨rfl, trivial⟩⟩
/-- the tuple of types -/
def tyVs (Ts : List Ty) : List V := Ts.map fun T => .ty T.name
def tyUs (Ts : List Ty) : List Value := Ts.map fun T => .type T.name
theorem cls_ts : ∀ Ts : List Ty, Paired ClsV (tyVs Ts) (tyUs Ts)
  | [] => .nil
  | T :: Ts => .cons (.ty _) (cls_ts Ts)
theorem kit_ts (K : PySem.W.Frag) (d : D) : ∀ Ts : List Ty, PySem.W.kitAny K (.type (tyD d)) (tyUs Ts) = some (Ts.any fun T => isi T d)
  | [] => kitAny_nil
  | T :: Ts => by
    refine kitAny_cons (b := isi T d) (isi_kit K T d) (fun h => ?_) (fun h => ?_)
    · rw [List.any_cons, h, Bool.false_or]; exact kit_ts K d Ts
    · rw [List.any_cons, h, Bool.true_or]
def tTys (Ts : List Ty) : TA := fun _ H Q => Q (tyVs Ts) H
theorem c_isiT {elts : List Expr} {k : Nat} {Ts : List Ty} (hg : Gl X "isinstance") (hm : X.mg "isinstance" = none) (ht : PA X elts (tTys Ts)) (hl : Ts.length ≤ 20) (ha : PE X e (rdE X.K XC F W fa)) (he : starEach [e, .Tuple elts k p1] X.env = (false, eval e X.env) :: starEach [.Tuple elts k p1] X.env)
    : PE X (.Call (.Name "isinstance" p) [e, .Tuple elts k p1] [] pos) (rdE X.K XC F W (eIsiT Ts fa)) :=
  PEimp (pe_callB call_isiT hg hm (by decide +kernel) (pa_cons ha (pa_cons (pe_tup ht) pa_nil) he) (by decide) (by decide) he (by rfl)) fun σ H Q ⟨Acc, ι, ρ, μ, S, E, h⟩ => by
    refine rd.bind (.refl S) E h fun v μ1 x H1 _ t1 r1 h1 => ?_
    cases ea : v.see μ1 with
    | none => rw [ea] at h1; exact h1.elim
    | some d =>
      rw [ea] at h1
      refine ⟨by show (tyVs Ts).length ≤ sizeLine; unfold tyVs; rw [List.length_map]; exact Nat.le_trans hl (by decide), fun p2 n => ?_⟩
      have tu := t1.sim.up n (.tup (tyVs Ts))
      have r2 : SeeR X.K (Liv Acc μ1 ι) (upd H1 p2 (.tup (tyVs Ts))) d x := see_ok tu.sim (EvR.mv t1 S tu r1.1 rfl) ea
      exact ⟨x, p2, tyVs Ts, .type (tyD d), tyUs Ts, _, rfl, upd_same, cls_ts Ts, tyx_of r2, kit_ts X.K d Ts, h1 (.bl _) _ (t1.trans tu) ⟨rfl, trivial⟩⟩
end

/-! ### 3. len, all, any, max, min, sum, abs, int, str, list, tuple, divmod -/
def bLen : List D → Option EV
  | [.str x] => if x.length ≤ LIM then some (.dat (.int x.length)) else none
  | [.tup ds] => some (.dat (.int ds.length))
  | [.lst ds] => some (.dat (.int ds.length))
  | [.dic ks _] => some (.dat (.int ks.length))
  | [.scr ns] => some (.dat (.int ns.length))
  | _ => none
def bls : List D → Option (List Bool)
  | [] => some []
  | .bl b :: ds => (bls ds).map (b :: ·)
  | _ => none
def toInts : List D → Option (List Int)
  | [] => some []
  | .int b :: ds => (toInts ds).map (b :: ·)
  | _ => none
def bAll : List D → Option EV
  | [.lst ds] => (bls ds).map fun bs => .dat (.bl (bs.all id))
  | _ => none
def bAny : List D → Option EV
  | [.lst ds] => (bls ds).map fun bs => .dat (.bl (bs.any id))
  | _ => none
def maxI : Int → List Int → Int
  | m, [] => m
  | m, n :: ns => maxI (if m < n then n else m) ns
def minI : Int → List Int → Int
  | m, [] => m
  | m, n :: ns => minI (if n < m then n else m) ns
def bMax : List D → Option EV
  | [.int i, .int j] => some (.dat (.int (if j > i then j else i)))
  | [.lst ds] => match toInts ds with
    | some (n :: ns) => some (.dat (.int (maxI n ns)))
    | _ => none
  | _ => none
def bMin : List D → Option EV
  | [.int i, .int j] => some (.dat (.int (if j < i then j else i)))
  | [.lst ds] => match toInts ds with
    | some (n :: ns) => some (.dat (.int (minI n ns)))
    | _ => none
  | _ => none
def bSum : List D → Option EV
  | [.lst ds] => (toInts ds).map fun ns => .dat (.int ns.sum)
  | [.scr ns] => some (.dat (.int ns.sum))
  | _ => none
def bAbs : List D → Option EV
  | [.int i] => some (.dat (.int (if i < 0 then -i else i)))
  | _ => none
def bInt : List D → Option EV
  | [.int i] => some (.dat (.int i))
  | [.bl b] => some (.dat (.int (if b then 1 else 0)))
  | _ => none
def bList : List D → Option EV
  | [.lst ds] => some (.new (.lst ds))
  | [.tup ds] => some (.new (.lst ds))
  | _ => none
def bTuple : List D → Option EV
  | [.lst ds] => some (.dat (.tup ds))
  | [.tup ds] => some (.dat (.tup ds))
  | _ => none
def bDivmod : List D → Option EV
  | [.int i, .int j] => if 0 < j ∧ j < 1073741824 then some (.dat (.tup [.int (i / j), .int (i % j)])) else none
  | _ => none
section
variable {K : PySem.W.Frag} {L : Addr → Prop} {H : Hp}
theorem sees1 {d : D} {xs : List V} (h : SeesR K L H [d] xs) : ∃ x, xs = [x] ∧ SeeR K L H d x := by
  obtain ⟨v, r, rfl, h1, h2⟩ := h
  have h2 : r = [] := h2
  subst h2
  exact ⟨v, rfl, h1⟩
theorem sees2 {d e : D} {xs : List V} (h : SeesR K L H [d, e] xs) : ∃ x y, xs = [x, y] ∧ SeeR K L H d x ∧ SeeR K L H e y := by
  obtain ⟨v, r, rfl, h1, h2⟩ := h
  obtain ⟨y, rfl, h3⟩ := sees1 h2
  exact ⟨v, y, rfl, h1, h3⟩
theorem bls_rep : ∀ {ds : List D} {bs : List Bool} {vs : List V}, bls ds = some bs → Reps K L H ds vs → vs = bs.map V.bl
  | [], bs, vs, h, r => by cases h; exact r.invN
  | d :: ds, bs, vs, h, r => by
    obtain ⟨v, rs, rfl, h1, h2⟩ := r.inv
    cases d <;> simp only [bls, reduceCtorEq] at h
    cases e : bls ds with
    | none => rw [e] at h; cases h
    | some cs =>
      rw [e] at h; cases h
      simp only [Rep] at h1
      rw [h1, bls_rep e h2] <;> rfl
theorem ints_rep : ∀ {ds : List D} {bs : List Int} {vs : List V}, toInts ds = some bs → Reps K L H ds vs → vs = bs.map V.int
  | [], bs, vs, h, r => by cases h; exact r.invN
  | d :: ds, bs, vs, h, r => by
    obtain ⟨v, rs, rfl, h1, h2⟩ := r.inv
    cases d <;> simp only [toInts, reduceCtorEq] at h
    cases e : toInts ds with
    | none => rw [e] at h; cases h
    | some cs =>
      rw [e] at h; cases h
      simp only [Rep] at h1
      rw [h1, ints_rep e h2] <;> rfl
theorem maxI_ge : ∀ (ns : List Int) (m : Int), m ≤ maxI m ns ∧ (∀ n ∈ ns, n ≤ maxI m ns) ∧ (maxI m ns = m ∨ maxI m ns ∈ ns)
  | [], m => ⟨Int.le_refl _, by simp, .inl rfl⟩
  | n :: ns, m => by
    by_cases e : m < n
    · obtain ⟨h1, h2, h3⟩ := maxI_ge ns n
      simp only [maxI, if_pos e]
      refine ⟨by omega, fun k hk => ?_, ?_⟩
      · rcases List.mem_cons.mp hk with rfl | hk
        · exact h1
        · exact h2 k hk
      · rcases h3 with h3 | h3
        · rw [h3]; exact .inr List.mem_cons_self
        · exact .inr (List.mem_cons_of_mem _ h3)
    · obtain ⟨h1, h2, h3⟩ := maxI_ge ns m
      simp only [maxI, if_neg e]
      refine ⟨h1, fun k hk => ?_, ?_⟩
      · rcases List.mem_cons.mp hk with rfl | hk
        · omega
        · exact h2 k hk
      · rcases h3 with h3 | h3
        · exact .inl h3
        · exact .inr (List.mem_cons_of_mem _ h3)
theorem minI_le : ∀ (ns : List Int) (m : Int), minI m ns ≤ m ∧ (∀ n ∈ ns, minI m ns ≤ n) ∧ (minI m ns = m ∨ minI m ns ∈ ns)
  | [], m => ⟨Int.le_refl _, by simp, .inl rfl⟩
  | n :: ns, m => by
    by_cases e : n < m
    · obtain ⟨h1, h2, h3⟩ := minI_le ns n
      simp only [minI, if_pos e]
      refine ⟨by omega, fun k hk => ?_, ?_⟩
      · rcases List.mem_cons.mp hk with rfl | hk
        · exact h1
        · exact h2 k hk
      · rcases h3 with h3 | h3
        · rw [h3]; exact .inr List.mem_cons_self
        · exact .inr (List.mem_cons_of_mem _ h3)
    · obtain ⟨h1, h2, h3⟩ := minI_le ns m
      simp only [minI, if_neg e]
      refine ⟨h1, fun k hk => ?_, ?_⟩
      · rcases List.mem_cons.mp hk with rfl | hk
        · omega
        · exact h2 k hk
      · rcases h3 with h3 | h3
        · exact .inl h3
        · exact .inr (List.mem_cons_of_mem _ h3)
theorem max_uniq {ns : List Int} {n m : Int} (h1 : m ∈ n :: ns) (h2 : ∀ y, y ∈ n :: ns → y ≤ m) : m = maxI n ns := by
  obtain ⟨a, b, c⟩ := maxI_ge ns n
  have h3 : maxI n ns ∈ n :: ns := by
    rcases c with c | c
    · rw [c]; exact List.mem_cons_self
    · exact List.mem_cons_of_mem _ c
  have h4 := h2 _ h3
  rcases List.mem_cons.mp h1 with e | h1
  · omega
  · have := b m h1; omega
theorem min_uniq {ns : List Int} {n m : Int} (h1 : m ∈ n :: ns) (h2 : ∀ y, y ∈ n :: ns → m ≤ y) : m = minI n ns := by
  obtain ⟨a, b, c⟩ := minI_le ns n
  have h3 : minI n ns ∈ n :: ns := by
    rcases c with c | c
    · rw [c]; exact List.mem_cons_self
    · exact List.mem_cons_of_mem _ c
  have h4 := h2 _ h3
  rcases List.mem_cons.mp h1 with e | h1
  · omega
  · have := b m h1; omega
end
section
variable {X : Cx}
def rLen (K : PySem.W.Frag) : List V → Hp → VK → Prop := fun xs H Q => ((∃ p ys, xs = [.ref p] ∧ (SqL K H p ys ∨ SqT K H p ys) ∧ Q (.int ys.length) H) ∨ (∃ z, xs = [.str z] ∧ z.length ≤ sizeLine ∧ Q (.int z.length) H)) ∨ (∃ a kvs, xs = [V.ref a] ∧ Rd H a (.dK kvs) ∧ Q (.int kvs.length) H)
/-- len of a dict, locked or not -/
theorem call_lenR : CallR X (.builtin "len") (fun xs H Q => ∃ a kvs, xs = [V.ref a] ∧ Rd H a (.dK kvs) ∧ Q (.int kvs.length) H) := by
  intro pins s σ H xs us Q I r h
  obtain ⟨a, kvs, rfl, ha, q⟩ := h
  obtain ⟨u, rfl, ru⟩ := vals1 r
  cases ru
  exact d_len I ha fun t s' I' => ⟨.int kvs.length, H, I', ⟨t, rfl⟩, q⟩
theorem or_len : CallR X (.builtin "len") (rLen X.K) := CallR.or (CallR.or call_len_seq call_len_str) call_lenR
theorem on_len : OpN X.K bLen (rLen X.K) := by
  intro Acc ι μ H ds xs e Q S r h q
  unfold bLen at h
  split at h
  · replace r := sees1 r; obtain ⟨x, rfl, r⟩ := r
    split at h
    · rename_i hl
      cases h
      rw [seeS r]
      exact .inl (.inr ⟨_, rfl, lim_ok hl, fin_dat S q rep_int⟩)
    · cases h
  · replace r := sees1 r; obtain ⟨x, rfl, r⟩ := r
    cases h
    obtain ⟨a, vs, rfl, t, r⟩ := seeT r
    rw [← r.len] at q
    exact .inl (.inl ⟨a, vs, rfl, .inr t.sq, fin_dat S q rep_int⟩)
  · replace r := sees1 r; obtain ⟨x, rfl, r⟩ := r
    cases h
    obtain ⟨a, vs, rfl, t, r⟩ := r
    rw [← r.len] at q
    exact .inl (.inl ⟨a, vs, rfl, .inl (SqL.of t), fin_dat S q rep_int⟩)
  · replace r := sees1 r; obtain ⟨x, rfl, r⟩ := r
    cases h
    obtain ⟨a, vs, rfl, t, hl, r⟩ := r
    rename_i ks ds'
    have e : (ks.zip vs).length = ks.length := by rw [List.length_zip, r.len, ← hl, Nat.min_self]
    rw [← e] at q
    exact .inr ⟨a, _, rfl, t, fin_dat S q rep_int⟩
  · replace r := sees1 r; obtain ⟨x, rfl, r⟩ := r
    cases h
    rename_i ns
    obtain ⟨a, rfl, t⟩ := (by simpa only [SeeR, Rep] using r : ∃ a, x = .ref a ∧ LstN X.K (Liv Acc μ ι) H a (ns.map V.int))
    have e : (ns.map V.int).length = ns.length := List.length_map _
    rw [← e] at q
    exact .inl (.inl ⟨a, _, rfl, .inl t.sq, fin_dat S q rep_int⟩)
  · cases h
theorem on_all : OpN X.K bAll (rAll X.K) := by
  intro Acc ι μ H ds xs e Q S r h q
  unfold bAll at h
  split at h
  · rename_i ds'
    cases hb : bls ds' with
    | none => rw [hb] at h; cases h
    | some bs =>
      rw [hb] at h; cases h
      obtain ⟨x, rfl, a, vs, rfl, t, r⟩ := sees1 r
      rw [bls_rep hb r] at t
      exact ⟨a, bs, rfl, SqL.of t, fin_dat S q rep_bl⟩
  · cases h
theorem on_any : OpN X.K bAny (rAny X.K) := by
  intro Acc ι μ H ds xs e Q S r h q
  unfold bAny at h
  split at h
  · rename_i ds'
    cases hb : bls ds' with
    | none => rw [hb] at h; cases h
    | some bs =>
      rw [hb] at h; cases h
      obtain ⟨x, rfl, a, vs, rfl, t, r⟩ := sees1 r
      rw [bls_rep hb r] at t
      exact ⟨a, bs, rfl, SqL.of t, fin_dat S q rep_bl⟩
  · cases h
theorem on_sum : OpN X.K bSum (rSum X.K) := by
  intro Acc ι μ H ds xs e Q S r h q
  unfold bSum at h
  split at h
  · rename_i ds'
    cases hb : toInts ds' with
    | none => rw [hb] at h; cases h
    | some bs =>
      rw [hb] at h; cases h
      obtain ⟨x, rfl, a, vs, rfl, t, r⟩ := sees1 r
      rw [ints_rep hb r] at t
      exact ⟨a, bs, rfl, SqL.of t, fin_dat S q rep_int⟩
  · rename_i ns
    cases h
    replace r := sees1 r; obtain ⟨x, rfl, r⟩ := r
    obtain ⟨a, rfl, t⟩ := (by simpa only [SeeR, Rep] using r : ∃ a, x = .ref a ∧ LstN X.K (Liv Acc μ ι) H a (ns.map V.int))
    exact ⟨a, ns, rfl, t.sq, fin_dat S q rep_int⟩
  · cases h
def rMaxAll (K : PySem.W.Frag) : List V → Hp → VK → Prop := fun xs H Q => (∃ i j, xs = [.int i, .int j] ∧ Q (.int (if j > i then j else i)) H) ∨ rMax K xs H Q
def rMinAll (K : PySem.W.Frag) : List V → Hp → VK → Prop := fun xs H Q => (∃ i j, xs = [.int i, .int j] ∧ Q (.int (if j < i then j else i)) H) ∨ rMin K xs H Q
theorem or_max (hc : X.calm = true) : CallR X (.builtin "max") (rMaxAll X.K) := CallR.or (call_max2 hc) (cr_max hc)
theorem or_min (hc : X.calm = true) : CallR X (.builtin "min") (rMinAll X.K) := CallR.or (call_min2 hc) (cr_min hc)
theorem on_max : OpN X.K bMax (rMaxAll X.K) := by
  intro Acc ι μ H ds xs e Q S r h q
  unfold bMax at h
  split at h
  · cases h
    obtain ⟨x, y, rfl, r1, r2⟩ := sees2 r
    rw [seeI r1, seeI r2]
    exact .inl ⟨_, _, rfl, fin_dat S q rep_int⟩
  · rename_i ds'
    split at h
    · rename_i n ns hb
      cases h
      obtain ⟨x, rfl, a, vs, rfl, t, r⟩ := sees1 r
      rw [ints_rep hb r] at t
      refine .inr ⟨a, n :: ns, rfl, SqL.of t, by simp, fun m h1 h2 => ?_⟩
      rw [max_uniq h1 h2]
      exact fin_dat S q rep_int
    · cases h
  · cases h
theorem on_min : OpN X.K bMin (rMinAll X.K) := by
  intro Acc ι μ H ds xs e Q S r h q
  unfold bMin at h
  split at h
  · cases h
    obtain ⟨x, y, rfl, r1, r2⟩ := sees2 r
    rw [seeI r1, seeI r2]
    exact .inl ⟨_, _, rfl, fin_dat S q rep_int⟩
  · rename_i ds'
    split at h
    · rename_i n ns hb
      cases h
      obtain ⟨x, rfl, a, vs, rfl, t, r⟩ := sees1 r
      rw [ints_rep hb r] at t
      refine .inr ⟨a, n :: ns, rfl, SqL.of t, by simp, fun m h1 h2 => ?_⟩
      rw [min_uniq h1 h2]
      exact fin_dat S q rep_int
    · cases h
  · cases h
theorem on_abs : OpN X.K bAbs (fun xs H Q => ∃ i, xs = [.int i] ∧ Q (.int (if i < 0 then -i else i)) H) := by
  intro Acc ι μ H ds xs e Q S r h q
  unfold bAbs at h
  split at h
  · cases h
    replace r := sees1 r; obtain ⟨x, rfl, r⟩ := r
    rw [seeI r]
    exact ⟨_, rfl, fin_dat S q rep_int⟩
  · cases h
theorem on_int : OpN X.K bInt (fun xs H Q => (∃ i, xs = [.int i] ∧ Q (.int i) H) ∨ ∃ k, xs = [.bl k] ∧ Q (.int (if k then 1 else 0)) H) := by
  intro Acc ι μ H ds xs e Q S r h q
  unfold bInt at h
  split at h
  · cases h
    replace r := sees1 r; obtain ⟨x, rfl, r⟩ := r
    rw [seeI r]
    exact .inl ⟨_, rfl, fin_dat S q rep_int⟩
  · cases h
    replace r := sees1 r; obtain ⟨x, rfl, r⟩ := r
    rw [seeB r]
    exact .inr ⟨_, rfl, fin_dat S q rep_int⟩
  · cases h
theorem on_list : OpN X.K bList (fun xs H Q => ∃ p ys, xs = [.ref p] ∧ (SqL X.K H p ys ∨ SqT X.K H p ys) ∧ ∀ l, H l = none → Q (.ref l) (upd H l (.lst ys))) := by
  intro Acc ι μ H ds xs e Q S r h q
  unfold bList at h
  split at h
  · cases h
    obtain ⟨x, rfl, a, vs, rfl, t, r⟩ := sees1 r
    exact ⟨a, vs, rfl, .inl (SqL.of t), fun l n => fin_lst S q r n⟩
  · cases h
    replace r := sees1 r; obtain ⟨x, rfl, r⟩ := r
    obtain ⟨a, vs, rfl, t, r⟩ := seeT r
    exact ⟨a, vs, rfl, .inr t.sq, fun l n => fin_lst S q r n⟩
  · cases h
theorem on_tuple : OpN X.K bTuple (fun xs H Q => ∃ p ys, xs = [.ref p] ∧ ((SqL X.K H p ys ∧ ∀ l, H l = none → Q (.ref l) (upd H l (.tup ys))) ∨ (SqT X.K H p ys ∧ Q (.ref p) H))) := by
  intro Acc ι μ H ds xs e Q S r h q
  unfold bTuple at h
  split at h
  · cases h
    obtain ⟨x, rfl, a, vs, rfl, t, r⟩ := sees1 r
    exact ⟨a, vs, rfl, .inl ⟨SqL.of t, fun l n => fin_tup S q r n⟩⟩
  · cases h
    replace r := sees1 r; obtain ⟨x, rfl, r⟩ := r
    obtain ⟨a, vs, rfl, t, r⟩ := seeT r
    exact ⟨a, vs, rfl, .inr ⟨t.sq, fin_dat S q (by simp only [Rep]; exact ⟨a, vs, rfl, t, r⟩)⟩⟩
  · cases h
theorem on_divmod : OpN X.K bDivmod (fun xs H Q => ∃ i j, xs = [.int i, .int j] ∧ CDiv i j ∧ ∀ p, H p = none → Q (.ref p) (upd H p (.tup [.int (i / j), .int (i % j)]))) := by
  intro Acc ι μ H ds xs e Q S r h q
  unfold bDivmod at h
  split at h
  · split at h
    · rename_i hc
      cases h
      obtain ⟨x, y, rfl, r1, r2⟩ := sees2 r
      rw [seeI r1, seeI r2]
      exact ⟨_, _, rfl, hc, fun p n => fin_tup S q (Reps.cons rep_int (Reps.cons rep_int Reps.nil)) n⟩
    · cases h
  · cases h
end
end VM
/-! What is walked: sources; targets; list comprehensions. -/
namespace VM
open PySem L2 PyProof.Rows

/-! ### 1. sources -/
inductive Src where
  /-- told items -/
  | vals (ds : List D)
  /-- a cell's items, as they stand at each turn -/
  | cell (k : Nat)
  /-- the same, numbered -/
  | ecell (k : Nat)
def enumD (ds : List D) : List D := ds.zipIdx.map fun p => .tup [.int (p.2 : Nat), p.1]
def Src.at (s : Src) (μ : Sto) : Option (List D) := match s with
  | .vals ds => some ds
  | .ecell k => match μ[k]? with
    | some c => match c.val with
      | .lst ds => some (enumD ds)
      | _ => none
    | none => none
  | .cell k => match μ[k]? with
    | some c => match c.val with
      | .lst ds => some ds
      | _ => none
    | none => none
abbrev SI := Fns → Env → Sto → Res Src
/-- an iterator walks a source, from (ι0, μ0, H0) on -/
def JR (K : PySem.W.Frag) (J : It) (s : Src) (Acc : Addr → Prop) (ι0 : List Addr) (μ0 : Sto) (H0 : Hp) : Prop :=
  ∀ (Acc' : Addr → Prop) (ι : List Addr) (μ : Sto) (H : Hp), Sim K Acc' μ ι H → Mv (Liv Acc μ0 ι0) H0 (Liv Acc' μ ι) H → (∀ (k : Nat) a, ι0[k]? = some a → ι[k]? = some a) → ∀ ds, s.at μ = some ds → ∀ i : Nat,
    (∀ d, ds[i]? = some d → J.go i H ∧ ∀ x H', J.yld i H x H' → Stp K Acc' ι μ H ι μ H' ∧ Rep K (Liv Acc' μ ι) H' d x) ∧ (ds.length ≤ i → J.stop i H)
def rdI (K : PySem.W.Frag) (XC : Nat → Addr) (F : Fns) (W : WX) (f : SI) : TI := fun σ H R =>
  ∃ (Acc : Addr → Prop) (ι : List Addr) (ρ : Env) (μ : Sto), Sim K Acc μ ι H ∧ EnvR K (Liv Acc μ ι) ι H ρ σ ∧ match f F ρ μ with
    | .ok s μ' => ∀ J H', Stp K Acc ι μ H ι μ' H' → JR K J s Acc ι μ' H' → R J H'
    | .exc x μ' => ∀ c d H', Stp K Acc ι μ H ι μ' H' → ExcR K XC (Liv Acc μ' ι) H H' x c d → W c d σ H'
    | .bad => False
/-- the items of a value -/
def srcOf (v : EV) (μ : Sto) : Option Src := match v with
  | .dat (.tup ds) => some (.vals ds)
  | .dat (.lst ds) => some (.vals ds)
  | .dat (.scr ns) => some (.vals (ns.map .int))
  | .dat (.str x) => some (.vals (x.cps.toList.map fun c => .str ⟨#[c]⟩))
  | .new (.lst ds) => some (.vals ds)
  | .cel k => match μ[k]? with
    | some c => match c.val with
      | .lst _ => some (.cell k)
      | _ => none
    | none => none
  | _ => none
def iOf (f : SE) : SI := fun F ρ μ => (f F ρ μ).bind fun v μ1 => match srcOf v μ1 with
  | some s => .ok s μ1
  | none => .bad
theorem PIimp {X : Cx} {tg e : Expr} {t t' : TI} (h : PI X tg e t) (i : ∀ σ H Q, t' σ H Q → t σ H Q) : PI X tg e t' := ⟨fun pins s σ H Q I q => h.run pins s σ H Q I (i σ H Q q)⟩
section
variable {K : PySem.W.Frag} {Acc : Addr → Prop} {ι : List Addr} {μ : Sto} {H : Hp}
theorem Reps.ints : ∀ (ns : List Int), Reps K (Liv Acc μ ι) H (ns.map .int) (ns.map V.int)
  | [] => Reps.nil
  | n :: ns => Reps.cons rep_int (Reps.ints ns)
/-- a list that stands still -/
theorem jr_still {a : Addr} {ds : List D} {vs : List V} (h : LstN K (Liv Acc μ ι) H a vs) (r : Reps K (Liv Acc μ ι) H ds vs) : JR K (Itl K a) (.vals ds) Acc ι μ H := by
  intro Acc' ι' μ' H' S m _ es he i
  cases he
  have h' := h.mv m
  have r' := Reps.mv m _ _ r
  refine ⟨fun d hd => ?_, fun hl => ⟨vs, h'.sq, by rw [r'.len]; exact hl⟩⟩
  obtain ⟨v, hv, rv⟩ := r'.get hd
  refine ⟨⟨vs, v, h'.sq, hv⟩, fun x H'' y => ?_⟩
  obtain ⟨e, y⟩ := y
  subst e
  have e2 := y vs h'.sq
  rw [hv] at e2
  cases e2
  exact ⟨.refl S, rv⟩
theorem jr_tup {a : Addr} {ds : List D} {vs : List V} (h : TupN K (Liv Acc μ ι) H a vs) (r : Reps K (Liv Acc μ ι) H ds vs) : JR K (Itt K a) (.vals ds) Acc ι μ H := by
  intro Acc' ι' μ' H' S m _ es he i
  cases he
  have h' := h.mv m
  have r' := Reps.mv m _ _ r
  refine ⟨fun d hd => ?_, fun hl => ⟨vs, h'.sq, by rw [r'.len]; exact hl⟩⟩
  obtain ⟨v, hv, rv⟩ := r'.get hd
  refine ⟨⟨vs, v, h'.sq, hv⟩, fun x H'' y => ?_⟩
  obtain ⟨e, y⟩ := y
  subst e
  have e2 := y vs h'.sq
  rw [hv] at e2
  cases e2
  exact ⟨.refl S, rv⟩
theorem jr_cell {k : Nat} {a : Addr} (e : ι[k]? = some a) : JR K (Itl K a) (.cell k) Acc ι μ H := by
  intro Acc' ι' μ' H' S m pr es he i
  have e' := pr k a e
  simp only [Src.at] at he
  cases hc : μ'[k]? with
  | none => rw [hc] at he; cases he
  | some c =>
    rw [hc] at he
    simp only at he
    obtain ⟨b, e1, r⟩ := S.cell k c hc
    rw [e'] at e1; cases e1
    cases hv : c.val with
    | dic ks ds => rw [hv] at he; cases he
    | dct ks ds => rw [hv] at he; cases he
    | lst ds =>
      rw [hv] at he r
      cases he
      obtain ⟨vs, hl, rr⟩ := r
      refine ⟨fun d hd => ?_, fun hle => ⟨vs, SqL.of hl, by rw [rr.len]; exact hle⟩⟩
      obtain ⟨v, hv, rv⟩ := rr.get hd
      refine ⟨⟨vs, v, SqL.of hl, hv⟩, fun x H'' y => ?_⟩
      obtain ⟨e, y⟩ := y
      subst e
      have e2 := y vs (SqL.of hl)
      rw [hv] at e2
      cases e2
      exact ⟨.refl S, rv⟩
theorem jr_str {x : Str} : JR K (Its x) (.vals (x.cps.toList.map fun c => .str ⟨#[c]⟩)) Acc ι μ H := by
  intro Acc' ι' μ' H' S m _ es he i
  cases he
  refine ⟨fun d hd => ?_, fun hl => ?_⟩
  · rw [List.getElem?_map] at hd
    cases hc : x.cps.toList[i]? with
    | none => rw [hc] at hd; cases hd
    | some c =>
      rw [hc] at hd; cases hd
      refine ⟨?_, fun v H'' y => ?_⟩
      · have := (List.getElem?_eq_some_iff.mp hc).1
        show i < x.cps.size
        simpa using this
      · obtain ⟨e, c', hc', rfl⟩ := y
        subst e
        rw [← Array.getElem?_toList, hc] at hc'
        cases hc'
        exact ⟨.refl S, rep_str⟩
  · rw [List.length_map, Array.length_toList] at hl
    exact hl
theorem jr_range {lo c : Int} {n : Nat} : JR K (Itc lo c n) (.vals ((List.range n).map fun i => .int (lo + (i : Nat) * c))) Acc ι μ H := by
  intro Acc' ι' μ' H' S m _ es he i
  cases he
  refine ⟨fun d hd => ?_, fun hl => ?_⟩
  · rw [List.getElem?_map] at hd
    cases hc : (List.range n)[i]? with
    | none => rw [hc] at hd; cases hd
    | some j =>
      rw [hc] at hd; cases hd
      obtain ⟨hi, e⟩ := List.getElem?_eq_some_iff.mp hc
      rw [List.length_range] at hi
      rw [List.getElem_range] at e
      subst e
      refine ⟨hi, fun v H'' y => ?_⟩
      obtain ⟨e, rfl⟩ := y
      subst e
      exact ⟨.refl S, rep_int⟩
  · rw [List.length_map, List.length_range] at hl
    exact hl
theorem jr_range1 {lo : Int} {n : Nat} : JR K (Itr lo n) (.vals ((List.range n).map fun i => .int (lo + (i : Nat)))) Acc ι μ H := by
  intro Acc' ι' μ' H' S m _ es he i
  cases he
  refine ⟨fun d hd => ?_, fun hl => ?_⟩
  · rw [List.getElem?_map] at hd
    cases hc : (List.range n)[i]? with
    | none => rw [hc] at hd; cases hd
    | some j =>
      rw [hc] at hd; cases hd
      obtain ⟨hi, e⟩ := List.getElem?_eq_some_iff.mp hc
      rw [List.length_range] at hi
      rw [List.getElem_range] at e
      subst e
      refine ⟨hi, fun v H'' y => ?_⟩
      obtain ⟨e, rfl⟩ := y
      subst e
      exact ⟨.refl S, rep_int⟩
  · rw [List.length_map, List.length_range] at hl
    exact hl
end
section
variable {X : Cx} {XC : Nat → Addr} {F : Fns} {W : WX} {tg e a b c : Expr} {fe : SE} {fa : SA} {pos p : Pos}
theorem rdI_of {K : PySem.W.Frag} {σ : L2.St} {H : Hp} {R : It → Hp → Prop} (h : rdI K XC F W (iOf fe) σ H R) : rdE K XC F W fe σ H fun v H1 => (∃ a, v = .ref a ∧ (∃ xs, SqL K H1 a xs) ∧ R (Itl K a) H1) ∨ (∃ a, v = .ref a ∧ (∃ xs, SqT K H1 a xs) ∧ R (Itt K a) H1) ∨ ∃ x, v = .str x ∧ R (Its x) H1 := by
  obtain ⟨Acc, ι, ρ, μ, S, E, h⟩ := h
  refine ⟨Acc, ι, ρ, μ, S, E, ?_⟩
  unfold iOf at h
  cases er : fe F ρ μ with
  | bad => rw [er] at h; exact h
  | exc x μ1 => rw [er] at h; exact h
  | ok v μ1 =>
    rw [er] at h
    simp only [Res.bind] at h
    intro u H1 t1 r1
    replace r1 := r1.1
    cases es : srcOf v μ1 with
    | none => rw [es] at h; exact h.elim
    | some s =>
      rw [es] at h
      simp only at h
      unfold srcOf at es
      split at es
      · cases es
        rename_i ds
        obtain ⟨a, vs, rfl, tp, rp⟩ := (by simpa only [EvR, Rep] using r1 : ∃ a vs, u = .ref a ∧ TupN K _ H1 a vs ∧ Reps K _ H1 ds vs)
        exact .inr (.inl ⟨a, rfl, ⟨vs, tp.sq⟩, h _ H1 t1 (jr_tup tp rp)⟩)
      · cases es
        rename_i ds
        obtain ⟨a, vs, rfl, tp, n, rp⟩ := (by simpa only [EvR, Rep] using r1 : ∃ a vs, u = .ref a ∧ H1 a = some (.lst vs) ∧ ¬ Liv Acc μ1 ι a ∧ Reps K _ H1 ds vs)
        exact .inl ⟨a, rfl, ⟨vs, SqL.of tp⟩, h _ H1 t1 (jr_still (.inl ⟨.inl tp, n⟩) rp)⟩
      · cases es
        rename_i ns
        obtain ⟨a, rfl, tp⟩ := (by simpa only [EvR, Rep] using r1 : ∃ a, u = .ref a ∧ LstN K _ H1 a (ns.map V.int))
        exact .inl ⟨a, rfl, ⟨_, tp.sq⟩, h _ H1 t1 (jr_still tp (Reps.ints ns))⟩
      · cases es
        rename_i x
        have e : u = .str x := r1
        exact .inr (.inr ⟨x, e, h _ H1 t1 jr_str⟩)
      · cases es
        rename_i ds
        obtain ⟨p, rfl, n, vs, hv, rp⟩ := r1
        have nl : ¬ Liv Acc μ1 ι p := fun z => by
          rcases z with z | z
          · exact S.trk z.mem n
          · exact (S.acc p z).2 n
        exact .inl ⟨p, rfl, ⟨vs, SqL.of hv⟩, h _ H1 t1 (jr_still (.inl ⟨.inl hv, nl⟩) rp)⟩
      · rename_i k
        obtain ⟨a, ea, rfl⟩ := r1
        cases hc : μ1[k]? with
        | none => rw [hc] at es; cases es
        | some c =>
          rw [hc] at es
          simp only at es
          cases hv : c.val with
          | dic ks ds => rw [hv] at es; cases es
          | dct ks ds => rw [hv] at es; cases es
          | lst ds =>
            rw [hv] at es
            cases es
            obtain ⟨b, e1, r⟩ := t1.sim.cell k c hc
            rw [ea] at e1; cases e1
            rw [hv] at r
            obtain ⟨vs, hl, rp⟩ := r
            exact .inl ⟨a, rfl, ⟨vs, SqL.of hl⟩, h _ H1 t1 (jr_cell ea)⟩
      · cases es
theorem ci_of (he : PE X e (rdE X.K XC F W fe)) : PI X tg e (rdI X.K XC F W (iOf fe)) := by
  refine ⟨fun pins s σ H R I h => ?_⟩
  have key : ∀ P : V → Hp → Prop, rdE X.K XC F W fe σ H P → wpAny (model X.prog X.w) X.A (eval e X.env) (EP X pins σ P) X.xe s := fun P q => he.run pins s σ H P I q
  have h' := rdI_of h
  refine thn (key _ h') fun v s1 ⟨x, H1, I1, r1, q1⟩ => ?_
  -- each way by the layer's own rule, at the value that has come
  rcases q1 with ⟨a, rfl, ⟨xs, hq⟩, q⟩ | ⟨a, rfl, ⟨xs, hq⟩, q⟩ | ⟨x, rfl, q⟩
  · cases r1
    obtain ⟨its, rv, p, hz⟩ := I1.list hq
    refine wpAny_pyIter_list p.isList ?_
    refine ⟨s1.heap.objs.size, [s1.heap.objs.size], _, _, H1, rfl, I1.kept (t' := s1.toks) fun b o e => Heap.get?_push_of_some _ e, turn_list a _, ⟨_, Heap.get?_push_size _ rfl, rfl, rfl⟩, fun b hb => ?_, q⟩
    have e : b = s1.heap.objs.size := by simpa using hb
    subst e
    exact I1.fpOk (Nat.le_refl _) (I1.hok.fresh (Nat.le_refl _))
  · cases r1
    obtain ⟨its, rv, p, hz⟩ := I1.tuple hq
    refine wpAny_pyIter_tuple (show s1.heap.IsTuple a its.toArray from p) ?_
    refine ⟨s1.heap.objs.size, [s1.heap.objs.size], _, _, H1, rfl, I1.kept (t' := s1.toks) fun b o e => Heap.get?_push_of_some _ e, turn_tuple a _, ⟨_, Heap.get?_push_size _ rfl, rfl, rfl⟩, fun b hb => ?_, q⟩
    have e : b = s1.heap.objs.size := by simpa using hb
    subst e
    exact I1.fpOk (Nat.le_refl _) (I1.hok.fresh (Nat.le_refl _))
  · obtain ⟨t, rfl⟩ := r1
    cases ha : x.cps.all (· < 128)
    · exact wpAny_pyIter_wide ha (pi_one (tk := s1.toks) I1 _ (turn_str _ x t "str_iterator" (.inr rfl)) ⟨_, Heap.get?_push_size _ rfl, rfl, rfl⟩ q)
    · exact wpAny_pyIter_ascii ha (pi_one (tk := s1.toks) I1 _ (turn_str _ x t "str_ascii_iterator" (.inl rfl)) ⟨_, Heap.get?_push_size _ rfl, rfl, rfl⟩ q)
/-- ranges -/
def rangeOf : List EV → Option Src
  | [.dat (.int n)] => if -1000000 ≤ n ∧ n ≤ 1000000 then some (.vals ((List.range n.toNat).map fun i => .int ((0 : Int) + (i : Nat)))) else none
  | [.dat (.int m), .dat (.int n)] => if -1000000 ≤ n ∧ n ≤ 1000000 ∧ -1000000 ≤ m ∧ m ≤ 1000000 then some (.vals ((List.range (n - m).toNat).map fun i => .int (m + (i : Nat)))) else none
  | [.dat (.int m), .dat (.int n), .dat (.int c)] => if c = -1 ∧ -1000000 ≤ n ∧ n ≤ 1000000 ∧ -1000000 ≤ m ∧ m ≤ 1000000 then some (.vals ((List.range (m - n).toNat).map fun i => .int (m + (i : Nat) * (-1)))) else none
  | _ => none
def iRange (fa : SA) : SI := fun F ρ μ => (fa F ρ μ).bind fun vs μ1 => match rangeOf vs with
  | some s => .ok s μ1
  | none => .bad
theorem evs1 {K : PySem.W.Frag} {L : Addr → Prop} {ι : List Addr} {H0 H : Hp} {e : EV} {xs : List V} (h : EvsR K L ι H0 H [e] xs) : ∃ x, xs = [x] ∧ EvR K L ι H0 H e x := by
  obtain ⟨v, r, rfl, h1, h2⟩ := h
  have h2 : r = [] := h2
  subst h2
  exact ⟨v, rfl, h1⟩
theorem evs2 {K : PySem.W.Frag} {L : Addr → Prop} {ι : List Addr} {H0 H : Hp} {e f : EV} {xs : List V} (h : EvsR K L ι H0 H [e, f] xs) : ∃ x y, xs = [x, y] ∧ EvR K L ι H0 H e x ∧ EvR K L ι H0 H f y := by
  obtain ⟨v, r, rfl, h1, h2⟩ := h
  obtain ⟨y, rfl, h3⟩ := evs1 h2
  exact ⟨v, y, rfl, h1, h3⟩
theorem evs3 {K : PySem.W.Frag} {L : Addr → Prop} {ι : List Addr} {H0 H : Hp} {e f g : EV} {xs : List V} (h : EvsR K L ι H0 H [e, f, g] xs) : ∃ x y z, xs = [x, y, z] ∧ EvR K L ι H0 H e x ∧ EvR K L ι H0 H f y ∧ EvR K L ι H0 H g z := by
  obtain ⟨v, r, rfl, h1, h2⟩ := h
  obtain ⟨y, z, rfl, h3, h4⟩ := evs2 h2
  exact ⟨v, y, z, rfl, h1, h3, h4⟩
theorem ci_range1 (hg : Gl X "range") (hm : X.mg "range" = none) (ha : PA X [a] (rdA X.K XC F W fa)) (hs : starEach [a] X.env = [(false, eval a X.env)]) (h1 : ∀ F ρ μ vs μ', fa F ρ μ = .ok vs μ' → vs.length = 1) :
    PI X tg (.Call (.Name "range" p) [a] [] pos) (rdI X.K XC F W (iRange fa)) :=
  PIimp (pi_range1 hg hm ha hs) fun σ H R ⟨Acc, ι, ρ, μ, S, E, h⟩ => by
    refine ⟨Acc, ι, ρ, μ, S, E, ?_⟩
    unfold iRange at h
    cases er : fa F ρ μ with
    | bad => rw [er] at h; exact h
    | exc x μ1 => rw [er] at h; exact h
    | ok vs μ1 =>
      rw [er] at h
      simp only [Res.bind] at h
      intro u H1 t1 r1
      have hl := h1 _ _ _ _ _ er
      cases es : rangeOf vs with
      | none => rw [es] at h; exact h.elim
      | some s =>
        rw [es] at h
        simp only at h
        unfold rangeOf at es
        split at es
        · split at es
          · rename_i n hn
            cases es
            obtain ⟨x, rfl, rx⟩ := evs1 r1
            have e : x = .int n := rx
            subst e
            exact ⟨n, rfl, by omega, by omega, h _ H1 t1 jr_range1⟩
          · cases es
        · cases hl
        · cases hl
        · cases es
theorem ci_range2 (hg : Gl X "range") (hm : X.mg "range" = none) (ha : PA X [a, b] (rdA X.K XC F W fa)) (hs : starEach [a, b] X.env = [(false, eval a X.env), (false, eval b X.env)]) (hs2 : starEach [b] X.env = [(false, eval b X.env)]) (h1 : ∀ F ρ μ vs μ', fa F ρ μ = .ok vs μ' → vs.length = 2) :
    PI X tg (.Call (.Name "range" p) [a, b] [] pos) (rdI X.K XC F W (iRange fa)) :=
  PIimp (pi_range2 hg hm ha hs hs2) fun σ H R ⟨Acc, ι, ρ, μ, S, E, h⟩ => by
    refine ⟨Acc, ι, ρ, μ, S, E, ?_⟩
    unfold iRange at h
    cases er : fa F ρ μ with
    | bad => rw [er] at h; exact h
    | exc x μ1 => rw [er] at h; exact h
    | ok vs μ1 =>
      rw [er] at h
      simp only [Res.bind] at h
      intro u H1 t1 r1
      have hl := h1 _ _ _ _ _ er
      cases es : rangeOf vs with
      | none => rw [es] at h; exact h.elim
      | some s =>
        rw [es] at h
        simp only at h
        unfold rangeOf at es
        split at es
        · cases hl
        · split at es
          · rename_i m n hn
            cases es
            obtain ⟨x, y, rfl, rx, ry⟩ := evs2 r1
            have e : x = .int m := rx
            have e2 : y = .int n := ry
            subst e e2
            exact ⟨m, n, rfl, ⟨by omega, by omega, by omega, by omega⟩, h _ H1 t1 jr_range1⟩
          · cases es
        · cases hl
        · cases es
theorem ci_range3 (hg : Gl X "range") (hm : X.mg "range" = none) (ha : PA X [a, b, c] (rdA X.K XC F W fa)) (hs : starEach [a, b, c] X.env = (false, eval a X.env) :: starEach [b, c] X.env) (hpl : (backTo pos (starEach [b, c] X.env)).any (·.1) = false) (h1 : ∀ F ρ μ vs μ', fa F ρ μ = .ok vs μ' → vs.length = 3) :
    PI X tg (.Call (.Name "range" p) [a, b, c] [] pos) (rdI X.K XC F W (iRange fa)) :=
  PIimp (pi_range3 hg hm ha hs hpl) fun σ H R ⟨Acc, ι, ρ, μ, S, E, h⟩ => by
    refine ⟨Acc, ι, ρ, μ, S, E, ?_⟩
    unfold iRange at h
    cases er : fa F ρ μ with
    | bad => rw [er] at h; exact h
    | exc x μ1 => rw [er] at h; exact h
    | ok vs μ1 =>
      rw [er] at h
      simp only [Res.bind] at h
      intro u H1 t1 r1
      have hl := h1 _ _ _ _ _ er
      cases es : rangeOf vs with
      | none => rw [es] at h; exact h.elim
      | some s =>
        rw [es] at h
        simp only at h
        unfold rangeOf at es
        split at es
        · cases hl
        · cases hl
        · split at es
          · rename_i m n c hn
            cases es
            obtain ⟨x, y, z, rfl, rx, ry, rz⟩ := evs3 r1
            have e : x = .int m := rx
            have e2 : y = .int n := ry
            have e3 : z = .int c := rz
            subst e e2 e3
            obtain ⟨hc, _⟩ := hn
            subst hc
            exact ⟨m, n, -1, (m - n).toNat, rfl, RgC.neg (by omega) (by omega) (by omega) (by omega), h _ H1 t1 jr_range⟩
          · cases es
        · cases es
theorem evs_len : ∀ (fs : List SE) (F : Fns) (ρ : Env) (μ : Sto) (vs : List EV) (μ' : Sto), evs fs F ρ μ = .ok vs μ' → vs.length = fs.length
  | [], F, ρ, μ, vs, μ', h => by cases h; rfl
  | f :: fs, F, ρ, μ, vs, μ', h => by
    simp only [evs] at h
    cases e : f F ρ μ with
    | bad => rw [e] at h; cases h
    | exc x μ1 => rw [e] at h; cases h
    | ok v μ1 =>
      rw [e] at h
      simp only [Res.bind] at h
      cases e2 : evs fs F ρ μ1 with
      | bad => rw [e2] at h; cases h
      | exc x μ2 => rw [e2] at h; cases h
      | ok ws μ2 =>
        rw [e2] at h
        cases h
        rw [List.length_cons, List.length_cons, evs_len fs F ρ μ1 ws _ e2]
end
end VM
/-! Targets of names; list comprehensions; the for loop. -/
namespace VM
open PySem L2 PyProof.Rows

/-! ### 1. targets -/
inductive Tgt where
  | nm (i : Nat) | tup (ts : List Tgt)
mutual
def asg : Tgt → D → Env → Option Env
  | .nm i, d, ρ => if i < ρ.length then some (ρ.set i (some (.dat d))) else none
  | .tup ts, .tup ds, ρ => asgs ts ds ρ
  | .tup _, _, _ => none
def asgs : List Tgt → List D → Env → Option Env
  | [], [], ρ => some ρ
  | t :: ts, d :: ds, ρ => match asg t d ρ with
    | some ρ1 => asgs ts ds ρ1
    | none => none
  | _, _, _ => none
end
mutual
def gT (K : PySem.W.Frag) : Tgt → TG
  | .nm i => gName i
  | .tup ts => gTup K ts.length (gTs K ts)
def gTs (K : PySem.W.Frag) : List Tgt → TGs
  | [] => gNil
  | t :: ts => gCons (gT K t) (gTs K ts)
end
mutual
def Tgt.slots : Tgt → List Nat
  | .nm i => [i]
  | .tup ts => slotsL ts
def slotsL : List Tgt → List Nat
  | [] => []
  | t :: ts => t.slots ++ slotsL ts
end
section
variable {K : PySem.W.Frag} {L : Addr → Prop} {ι : List Addr} {H : Hp}
theorem EnvR.set {ρ : Env} {σ : L2.St} {i : Nat} {s : SV} {v : V} (E : EnvR K L ι H ρ σ) (r : SvR K L ι H s v) : EnvR K L ι H (ρ.set i (some s)) (σ.set i (some v)) := by
  refine ⟨by rw [List.length_set, List.length_set]; exact E.1, fun j s' e => ?_⟩
  by_cases hj : i = j
  · subst hj
    by_cases hl : i < ρ.length
    · rw [List.getElem?_set_self hl] at e
      cases e
      exact ⟨v, List.getElem?_set_self (by rw [← E.1]; exact hl), r⟩
    · rw [List.getElem?_eq_none (by rw [List.length_set]; omega)] at e
      cases e
  · rw [List.getElem?_set_ne hj] at e
    obtain ⟨w, e1, r1⟩ := E.2 j s' e
    exact ⟨w, by rw [List.getElem?_set_ne hj]; exact e1, r1⟩
theorem EnvR.clr {ρ : Env} {σ : L2.St} {i : Nat} (E : EnvR K L ι H ρ σ) : EnvR K L ι H (ρ.set i none) (σ.set i none) := by
  refine ⟨by rw [List.length_set, List.length_set]; exact E.1, fun j s' e => ?_⟩
  by_cases hj : i = j
  · subst hj
    by_cases hl : i < ρ.length
    · rw [List.getElem?_set_self hl] at e
      cases e
    · rw [List.getElem?_eq_none (by rw [List.length_set]; omega)] at e
      cases e
  · rw [List.getElem?_set_ne hj] at e
    obtain ⟨w, e1, r1⟩ := E.2 j s' e
    exact ⟨w, by rw [List.getElem?_set_ne hj]; exact e1, r1⟩
def wipeE (ρ : Env) : List Nat → Env
  | [] => ρ
  | v :: vs => (wipeE ρ vs).set v none
theorem EnvR.wiped {ρ : Env} {σ : L2.St} (E : EnvR K L ι H ρ σ) : ∀ vs, EnvR K L ι H (wipeE ρ vs) (wipe σ vs)
  | [] => E
  | v :: vs => by
    unfold wipeE wipe
    exact (EnvR.wiped E vs).clr
theorem wipe_set {σ : L2.St} {i : Nat} {x : Option V} : ∀ {vs : List Nat}, i ∈ vs → wipe (σ.set i x) vs = wipe σ vs
  | [], h => absurd h (by simp)
  | v :: vs, h => by
    unfold wipe
    by_cases hv : i ∈ vs
    · rw [wipe_set hv]
    · have e : i = v := by
        rcases List.mem_cons.mp h with e | h
        · exact e
        · exact absurd h hv
      subst e
      have e2 : ∀ (ws : List Nat), i ∉ ws → wipe (σ.set i x) ws = (wipe σ ws).set i x := by
        intro ws
        induction ws with
        | nil => intro _; rfl
        | cons w ws ih =>
          intro hn
          unfold wipe
          rw [ih (fun z => hn (List.mem_cons_of_mem _ z))]
          exact List.set_comm _ _ (fun z => hn (z ▸ List.mem_cons_self))
      rw [e2 vs hv, List.set_set]
mutual
theorem gT_ok {Q : L2.St → Hp → Prop} : ∀ (t : Tgt) (d : D) (v : V) (ρ ρ' : Env) (σ : L2.St), asg t d ρ = some ρ' → Rep K L H d v → EnvR K L ι H ρ σ →
    (∀ σ', EnvR K L ι H ρ' σ' → (∀ vs : List Nat, (∀ i ∈ t.slots, i ∈ vs) → wipe σ' vs = wipe σ vs) → Q σ' H) → gT K t v σ H Q
  | .nm i, d, v, ρ, ρ', σ, h, r, E, q => by
    simp only [asg] at h
    split at h
    · cases h
      simp only [gT]
      exact q _ (E.set (s := .dat d) r) fun vs hv => wipe_set (hv i (by simp only [Tgt.slots]; exact List.mem_singleton.mpr rfl))
    · cases h
  | .tup ts, d, v, ρ, ρ', σ, h, r, E, q => by
    cases d <;> simp only [asg, reduceCtorEq] at h
    rename_i ds
    simp only [Rep] at r
    obtain ⟨a, vs, rfl, t, r⟩ := r
    have hl : ts.length = ds.length := asgs_len ts ds ρ ρ' h
    simp only [gT]
    exact ⟨a, vs, rfl, t.sq, by rw [r.len, hl], gTs_ok ts ds vs ρ ρ' σ h r E fun σ' E' w => q σ' E' fun ws hw => w ws fun i hi => hw i (by simp only [Tgt.slots]; exact hi)⟩
theorem gTs_ok {Q : L2.St → Hp → Prop} : ∀ (ts : List Tgt) (ds : List D) (vs : List V) (ρ ρ' : Env) (σ : L2.St), asgs ts ds ρ = some ρ' → Reps K L H ds vs → EnvR K L ι H ρ σ →
    (∀ σ', EnvR K L ι H ρ' σ' → (∀ ws : List Nat, (∀ i ∈ slotsL ts, i ∈ ws) → wipe σ' ws = wipe σ ws) → Q σ' H) → gTs K ts vs σ H Q
  | [], [], vs, ρ, ρ', σ, h, r, E, q => by
    simp only [asgs] at h
    cases h
    simp only [gTs]
    exact ⟨r.invN, q σ E fun _ _ => rfl⟩
  | [], _ :: _, vs, ρ, ρ', σ, h, r, E, q => by simp [asgs] at h
  | _ :: _, [], vs, ρ, ρ', σ, h, r, E, q => by simp [asgs] at h
  | t :: ts, d :: ds, vs, ρ, ρ', σ, h, r, E, q => by
    simp only [asgs] at h
    cases e : asg t d ρ with
    | none => rw [e] at h; cases h
    | some ρ1 =>
      rw [e] at h
      simp only at h
      obtain ⟨v, rs, rfl, h1, h2⟩ := r.inv
      simp only [gTs]
      refine ⟨v, rs, rfl, gT_ok t d v ρ ρ1 σ e h1 E fun σ1 E1 w1 => gTs_ok ts ds rs ρ1 ρ' σ1 h h2 E1 fun σ2 E2 w2 => q σ2 E2 fun ws hw => ?_⟩
      rw [w2 ws fun i hi => hw i (by simp only [slotsL]; exact List.mem_append_right _ hi), w1 ws fun i hi => hw i (by simp only [slotsL]; exact List.mem_append_left _ hi)]
theorem asgs_len : ∀ (ts : List Tgt) (ds : List D) (ρ ρ' : Env), asgs ts ds ρ = some ρ' → ts.length = ds.length
  | [], [], ρ, ρ', h => rfl
  | [], _ :: _, ρ, ρ', h => by simp [asgs] at h
  | _ :: _, [], ρ, ρ', h => by simp [asgs] at h
  | t :: ts, d :: ds, ρ, ρ', h => by
    simp only [asgs] at h
    cases e : asg t d ρ with
    | none => rw [e] at h; cases h
    | some ρ1 =>
      rw [e] at h
      rw [List.length_cons, List.length_cons, asgs_len ts ds ρ1 ρ' h]
end
end

/-! ### 2. list comprehensions -/
def bYes : SB := fun _ _ μ => .ok true μ
/-- nothing is raised out of a comprehension -/
def Res.nox {α : Type} (r : Res α) : Res α := match r with
  | .ok a μ => .ok a μ
  | _ => .bad
def lcStep (F : Fns) (t : Tgt) (ifs : SB) (elt : SE) (ρ0 : Env) (d : D) (μ : Sto) : Res (Option D) := match asg t d ρ0 with
  | none => .bad
  | some ρ => (ifs F ρ μ).nox.bind fun b μ1 => match b with
    | true => (elt F ρ μ1).nox.bind fun v μ2 => match v.frz μ2 with
      | some (x, μ3) => .ok (some x) μ3
      | none => .bad
    | false => .ok none μ1
def lcLoop (s : Src) (step : D → Sto → Res (Option D)) : Nat → Nat → Sto → Res (List D)
  | 0, _, _ => .bad
  | n + 1, i, μ => match s.at μ with
    | none => .bad
    | some ds => match ds[i]? with
      | none => .ok [] μ
      | some d => if i < LIM then (step d μ).bind fun o μ1 => (lcLoop s step n (i + 1) μ1).bind fun r μ2 => match o with
        | some x => .ok (x :: r) μ2
        | none => .ok r μ2
        else .bad
def Src.len (s : Src) (μ : Sto) : Nat := match s.at μ with
  | some ds => ds.length
  | none => 0
def eLc (it : SI) (t : Tgt) (ifs : SB) (elt : SE) (own : List Nat) : SE := fun F ρ μ => (it F ρ μ).bind fun s μ1 =>
  (lcLoop s (lcStep F t ifs elt (wipeE ρ own)) (s.len μ1 + 1) 0 μ1).bind fun ds μ2 => if ds.length ≤ LIM then .ok (.new (.lst ds)) μ2 else .bad

section
variable {K : PySem.W.Frag} {Acc : Addr → Prop} {ι : List Addr} {μ : Sto} {H : Hp}
theorem Sim.less {Acc' : Addr → Prop} (S : Sim K Acc' μ ι H) (h : ∀ a, Acc a → Acc' a) : Sim K Acc μ ι H := by
  refine ⟨S.len, S.nd, fun a ha => S.acc a (h a ha), fun k c e => ?_, fun a ha => S.hot a (ha.imp id (h a))⟩
  obtain ⟨a, e1, r⟩ := S.cell k c e
  exact ⟨a, e1, r.mv (fun a o e n => ⟨e, fun z => n (z.imp id (h a))⟩) fun _ e => e⟩
theorem Stp.less {Acc' : Addr → Prop} {ι' : List Addr} {μ' : Sto} {H' : Hp} (t : Stp K Acc' ι μ H ι' μ' H') (h : ∀ a, Acc a → Acc' a) : Stp K Acc ι μ H ι' μ' H' := ⟨t.sim.less h, t.pre, t.keep, t.trk, t.liv⟩
/-- the touched one is written -/
theorem Sim.wr (S : Sim K Acc μ ι H) {p : Addr} (hp : Acc p) (o : HO) (ho : ∀ o' kvs, o ≠ .frz o' (.dK kvs) := by intro _ _ z; cases z) : Sim K Acc μ ι (upd H p o) ∧ Mv (Liv Acc μ ι) H (Liv Acc μ ι) (upd H p o) := by
  have m : Mv (Liv Acc μ ι) H (Liv Acc μ ι) (upd H p o) := fun a u e l => ⟨by
    have ne : a ≠ p := fun z => l (.inr (z ▸ hp))
    rw [upd_ne ne]; exact e, l⟩
  refine ⟨⟨S.len, S.nd, fun a h => ⟨(S.acc a h).1, ?_⟩, fun k c e => ?_, fun a h o' kvs => ?_⟩, m⟩
  rotate_left 2
  · by_cases e : a = p
    · subst e; rw [upd_same]; exact fun z => ho o' kvs (by cases z; rfl)
    · rw [upd_ne e]; exact S.hot a h o' kvs
  · by_cases e : a = p
    · subst e; rw [upd_same]; simp
    · rw [upd_ne e]; exact (S.acc a h).2
  · obtain ⟨a, e1, r⟩ := S.cell k c e
    refine ⟨a, e1, r.mv m fun u hu => ?_⟩
    have ne : a ≠ p := fun z => (S.acc p hp).1 (z ▸ List.mem_of_getElem? e1)
    rw [upd_ne ne]; exact hu
end
abbrev W0 : WX := fun _ _ _ _ => False
section
variable {K : PySem.W.Frag} {XC : Nat → Addr} {F : Fns} {W : WX} {Acc : Addr → Prop} {ι : List Addr} {μ : Sto} {H : Hp} {σ : L2.St}
theorem SvR.mvM {L L' : Addr → Prop} {H H' : Hp} {s : SV} {v : V} (m : Mv L H L' H') (h : SvR K L ι H s v) : SvR K L' ι H' s v := by
  cases s with
  | dat d => exact Rep.mv m _ _ h
  | cel k => exact h
theorem EnvR.mvM {L L' : Addr → Prop} {H H' : Hp} {ρ : Env} (m : Mv L H L' H') (E : EnvR K L ι H ρ σ) : EnvR K L' ι H' ρ σ := ⟨E.1, fun i s e => let ⟨v, e1, r⟩ := E.2 i s e; ⟨v, e1, r.mvM m⟩⟩
theorem Mv.trans {L L1 L2 : Addr → Prop} {H H1 H2 : Hp} (a : Mv L H L1 H1) (b : Mv L1 H1 L2 H2) : Mv L H L2 H2 := fun x o h n => let ⟨h1, n1⟩ := a x o h n; b x o h1 n1
/-- an inner run, of which no exception comes -/
theorem rd.inner {α β γ δ : Type} {Rel : (Addr → Prop) → Sto → List Addr → Hp → Hp → α → β → Prop} {Rel2 : (Addr → Prop) → Sto → List Addr → Hp → Hp → γ → δ → Prop} {Acc' : Addr → Prop} {f : Fns → Env → Sto → Res α} {ρ : Env} {μ0 : Sto} {H0 : Hp} {σ0 : L2.St} {g : α → Sto → Res γ} {Q : δ → Hp → Prop} {P : β → Hp → Prop}
    (S : Sim K Acc' μ ι H) (E : EnvR K (Liv Acc' μ ι) ι H ρ σ) (h : wp Rel2 K XC W Acc ι μ0 H0 σ0 ((f F ρ μ).nox.bind g) Q)
    (k : ∀ a μ' b H', Stp K Acc' ι μ H ι μ' H' → Rel Acc' μ' ι H H' a b → wp Rel2 K XC W Acc ι μ0 H0 σ0 (g a μ') Q → P b H') : rd K XC F W0 Rel f σ H P := by
  refine ⟨Acc', ι, ρ, μ, S, E, ?_⟩
  cases e : f F ρ μ with
  | ok a μ' => rw [e] at h; exact fun b H' t' rl => k a μ' b H' t' rl h
  | exc x μ' => rw [e] at h; exact h.elim
  | bad => rw [e] at h; exact h.elim
theorem lc_read {it : SI} {t : Tgt} {fi : SB} {fe : SE} {vs : List Nat} {Q : VK} (hsl : ∀ i ∈ t.slots, i ∈ vs) (h : rdE K XC F W (eLc it t fi fe vs) σ H Q) : tLc (rdI K XC F W it) (gT K t) (rdB K XC F W0 fi) (rdE K XC F W0 fe) vs σ H Q := by
  obtain ⟨Acc, ι, ρ, μ, S, E, h⟩ := h
  refine ⟨Acc, ι, ρ, μ, S, E, ?_⟩
  unfold eLc at h
  cases er : it F ρ μ with
  | bad => rw [er] at h; exact h
  | exc x μ1 => rw [er] at h; exact h
  | ok s μ1 =>
    rw [er] at h
    simp only [Res.bind] at h
    intro J H1 t1 jr Dl hD
    have S1 := t1.sim.more hD (.lst [])
    have m1 : Mv (Liv Acc μ1 ι) H1 (Liv (fun a => Acc a ∨ a = Dl) μ1 ι) (upd H1 Dl (.lst [])) := fun a u e l => by
      refine ⟨by rw [upd_ne (ne_of_none e hD)]; exact e, fun z => ?_⟩
      rcases z with z | z | z
      · exact l (.inl z)
      · exact l (.inr z)
      · subst z; rw [hD] at e; cases e
    have E1 : EnvR K (Liv Acc μ1 ι) ι H1 ρ σ := E.mv t1 S
    refine ⟨fun i m Hc => ∃ (μi : Sto) (accD : List D) (accV : List V), Stp K Acc ι μ H ι μi Hc ∧ Sim K (fun a => Acc a ∨ a = Dl) μi ι Hc ∧ Mv (Liv Acc μ1 ι) H1 (Liv (fun a => Acc a ∨ a = Dl) μi ι) Hc ∧ Hc Dl = some (.lst accV) ∧ accD.length ≤ i ∧
      Reps K (Liv (fun a => Acc a ∨ a = Dl) μi ι) Hc accD accV ∧ wp (relE K) K XC W Acc ι μ H σ ((lcLoop s (lcStep F t fi fe (wipeE ρ vs)) m i μi).bind fun ds μ2 => if (accD ++ ds).length ≤ LIM then .ok (.new (.lst (accD ++ ds))) μ2 else .bad) Q,
      ⟨s.len μ1 + 1, μ1, [], [], t1.trans (t1.sim.up hD _), S1, m1, upd_same, Nat.le_refl _, Reps.nil, h⟩, ?_⟩
    rintro i m Hc ⟨μi, accD, accV, tc, Sc, mc, hDl, hlen, racc, hw⟩
    cases m with
    | zero => exact hw.elim
    | succ m =>
      unfold lcLoop at hw
      cases ea : s.at μi with
      | none => rw [ea] at hw; exact hw.elim
      | some ds =>
        rw [ea] at hw
        simp only at hw
        have j := jr (fun a => Acc a ∨ a = Dl) ι μi Hc Sc mc (fun k a e => e) ds ea i
        cases ei : ds[i]? with
        | none =>
          rw [ei] at hw
          have hl : ds.length ≤ i := List.getElem?_eq_none_iff.mp ei
          refine .inl ⟨j.2 hl, ?_⟩
          simp only [Res.bind, List.append_nil] at hw
          by_cases hz : accD.length ≤ LIM
          · rw [if_pos hz] at hw
            refine hw (.ref Dl) Hc tc ⟨⟨Dl, rfl, t1.back hD, accV, hDl, ?_⟩, fun q e => by cases e; exact ⟨Sc, accV, hDl, racc⟩⟩
            exact Reps.mv (fun a o e n => ⟨e, fun z => n (z.imp id .inl)⟩) _ _ racc
          · rw [if_neg hz] at hw; exact hw.elim
        | some d =>
          rw [ei] at hw
          simp only at hw
          by_cases hLi : i < LIM
          case neg => rw [if_neg hLi] at hw; exact hw.elim
          rw [if_pos hLi] at hw
          obtain ⟨jg, jy⟩ := j.1 d ei
          refine .inr ⟨jg, fun Hn => ∃ (μn : Sto) (accD' : List D) (accV' : List V), Stp K Acc ι μ H ι μn Hn ∧ Sim K (fun a => Acc a ∨ a = Dl) μn ι Hn ∧ Mv (Liv Acc μ1 ι) H1 (Liv (fun a => Acc a ∨ a = Dl) μn ι) Hn ∧ Hn Dl = some (.lst accV') ∧ accD'.length ≤ i + 1 ∧
            Reps K (Liv (fun a => Acc a ∨ a = Dl) μn ι) Hn accD' accV' ∧ wp (relE K) K XC W Acc ι μ H σ ((lcLoop s (lcStep F t fi fe (wipeE ρ vs)) m (i + 1) μn).bind fun ds μ2 => if (accD' ++ ds).length ≤ LIM then .ok (.new (.lst (accD' ++ ds))) μ2 else .bad) Q,
            fun H' hn => ⟨m, Nat.lt_succ_self m, hn⟩, fun x Hy hy => ?_⟩
          obtain ⟨ty, ry⟩ := jy x Hy hy
          have my := ty.mv Sc
          have mcy := mc.trans my
          unfold lcStep at hw
          cases easg : asg t d (wipeE ρ vs) with
          | none => rw [easg] at hw; exact hw.elim
          | some ρ2 =>
            rw [easg] at hw
            simp only at hw
            refine gT_ok t d x (wipeE ρ vs) ρ2 (wipe σ vs) easg ry ((E1.wiped vs).mvM mcy) fun σ2 E2 w2 => ⟨?_, ?_⟩
            · rw [w2 vs hsl]
              have ww : ∀ (us : List Nat), (∀ i ∈ us, i ∈ vs) → wipe (wipe σ vs) us = wipe σ vs := by
                intro us
                induction us with
                | nil => intro _; rfl
                | cons u us ih =>
                  intro hu
                  show (wipe (wipe σ vs) us).set u none = _
                  rw [ih fun i hi => hu i (List.mem_cons_of_mem _ hi)]
                  have hm := hu u List.mem_cons_self
                  have : ∀ (xs : List Nat), u ∈ xs → (wipe σ xs).set u none = wipe σ xs := by
                    intro xs
                    induction xs with
                    | nil => intro h; exact absurd h (by simp)
                    | cons y ys ihy =>
                      intro h
                      show ((wipe σ ys).set y none).set u none = (wipe σ ys).set y none
                      by_cases e : y = u
                      · subst e; rw [List.set_set]
                      · rw [List.set_comm _ _ e, ihy (by rcases List.mem_cons.mp h with z | z; exact absurd z.symm e; exact z)]
                  exact this vs hm
              exact ww vs fun _ h => h
            · -- the tests
              have hw2 : wp (relE K) K XC W Acc ι μ H σ ((fi F ρ2 μi).nox.bind fun b μa => (match b with
                  | true => (fe F ρ2 μa).nox.bind fun v μ2 => match v.frz μ2 with
                    | some (x, μ3) => .ok (some x) μ3
                    | none => .bad
                  | false => .ok none μa : Res (Option D)).bind fun o μb => (lcLoop s (lcStep F t fi fe (wipeE ρ vs)) m (i + 1) μb).bind fun r μ2 => (match o with
                    | some x => .ok (x :: r) μ2
                    | none => .ok r μ2 : Res (List D)).bind fun ds μ2 => if (accD ++ ds).length ≤ LIM then .ok (.new (.lst (accD ++ ds))) μ2 else .bad) Q := by
                have bb : ∀ {α β γ : Type} (r : Res α) (f : α → Sto → Res β) (g : β → Sto → Res γ), (r.bind f).bind g = r.bind fun a μ => (f a μ).bind g := fun r f g => by cases r <;> rfl
                rw [bb, bb] at hw
                simp only [bb] at hw ⊢
                exact hw
              refine rd.inner ty.sim E2 hw2 fun b μa b' Ha ta ra ha => ?_
              have eb : b' = b := ra
              subst eb
              have tya := ty.trans ta
              have DL : ∀ {μx : Sto} {Hx : Hp}, Stp K (fun a => Acc a ∨ a = Dl) ι μi Hc ι μx Hx → Hx Dl = some (.lst accV) := fun {μx Hx} tx => tx.keep Dl _ hDl fun z => (Sc.acc Dl (.inr rfl)).1 z.mem
              cases b' with
              | false =>
                refine ⟨μa, accD, accV, tc.trans (tya.less fun a h => .inl h), tya.sim, mc.trans (tya.mv Sc), DL tya, Nat.le_succ_of_le hlen, Reps.mv (tya.mv Sc) _ _ racc, ?_⟩
                simp only [Res.bind] at ha ⊢
                cases el : lcLoop s (lcStep F t fi fe (wipeE ρ vs)) m (i + 1) μa with
                | bad => rw [el] at ha; exact ha
                | exc x μb => rw [el] at ha; exact ha
                | ok r μb => rw [el] at ha; exact ha
              | true =>
                simp only at ha
                have bb : ∀ {α β γ : Type} (r : Res α) (f : α → Sto → Res β) (g : β → Sto → Res γ), (r.bind f).bind g = r.bind fun a μ => (f a μ).bind g := fun r f g => by cases r <;> rfl
                rw [bb] at ha
                simp only [if_true]
                refine rd.inner ta.sim (E2.mv ta ty.sim) ha fun v μb y Hb tb rb hb => ?_
                have tyb := tya.trans tb
                cases ef : v.frz μb with
                | none => rw [ef] at hb; exact hb.elim
                | some p =>
                  obtain ⟨xd, μc⟩ := p
                  rw [ef] at hb
                  simp only [Res.bind] at hb
                  obtain ⟨tf, rx⟩ := frz_ok tb.sim (fun a ha => ta.sim.trk ha) ta.sim.accT rb.1 ef
                  have tyf := tyb.trans tf
                  refine ⟨accV, DL tyb, ?_, ?_⟩
                  · have := racc.len
                    rw [this]
                    have h2 : (LIM : Nat) ≤ sizeLine := by decide
                    omega
                  · obtain ⟨Sw, mw⟩ := tyf.sim.wr (.inr rfl : (fun a => Acc a ∨ a = Dl) Dl) (.lst (accV ++ [y]))
                    refine ⟨μc, accD ++ [xd], accV ++ [y], ?_, Sw, (mc.trans (tyf.mv Sc)).trans mw, upd_same, by rw [List.length_append]; exact Nat.succ_le_succ hlen, (Reps.mv ((tyf.mv Sc).trans mw) _ _ racc).app (Reps.cons (Rep.mv mw _ _ rx) Reps.nil), ?_⟩
                    · have tl := tc.trans (tyf.less (Acc := Acc) fun a h => .inl h)
                      refine ⟨Sw.less fun a h => .inl h, tl.pre, fun a o e n => ?_, fun a n => ?_, fun a z => tl.liv a z⟩
                      · have ne : a ≠ Dl := fun z => by subst z; rw [t1.back hD] at e; cases e
                        rw [upd_ne ne]
                        exact tl.keep a o e n
                      · by_cases e : a = Dl
                        · subst e; rw [upd_same]; simp
                        · rw [upd_ne e]; exact tl.trk a n
                    · cases el : lcLoop s (lcStep F t fi fe (wipeE ρ vs)) m (i + 1) μc with
                      | bad => rw [el] at hb; exact hb
                      | exc x μb => rw [el] at hb; exact hb
                      | ok r μd =>
                        rw [el] at hb
                        simp only [Res.bind, List.append_assoc, List.singleton_append] at hb ⊢
                        exact hb
end
end VM
/-! Statements. -/
namespace VM
open PySem L2 PyProof.Rows

def wpS (K : PySem.W.Frag) (XC : Nat → Addr) (W : WX) (Acc : Addr → Prop) (ι : List Addr) (μ : Sto) (H : Hp) (r : Res SO) (D : Ends) : Prop := match r with
  | .ok (.nx ρ') μ' => ∀ ι' H' σ', Stp K Acc ι μ H ι' μ' H' → EnvR K (Liv Acc μ' ι') ι' H' ρ' σ' → D.nx σ' H'
  | .ok (.bk ρ') μ' => ∀ ι' H' σ', Stp K Acc ι μ H ι' μ' H' → EnvR K (Liv Acc μ' ι') ι' H' ρ' σ' → D.bk σ' H'
  | .ok (.ct ρ') μ' => ∀ ι' H' σ', Stp K Acc ι μ H ι' μ' H' → EnvR K (Liv Acc μ' ι') ι' H' ρ' σ' → D.ct σ' H'
  | .ok (.rt v) μ' => ∀ ι' H' u, Stp K Acc ι μ H ι' μ' H' → EvR K (Liv Acc μ' ι') ι' H H' v u → OwnR K Acc μ' ι' H' v u → D.rt u H'
  | .exc x μ' => ∀ ι' H' c d σ', Stp K Acc ι μ H ι' μ' H' → ExcR K XC (Liv Acc μ' ι') H H' x c d → W c d σ' H'
  | .bad => False
def rdS (K : PySem.W.Frag) (XC : Nat → Addr) (F : Fns) (W : WX) (f : SS) : TS := fun D σ H =>
  ∃ (Acc : Addr → Prop) (ι : List Addr) (ρ : Env) (μ : Sto), Sim K Acc μ ι H ∧ EnvR K (Liv Acc μ ι) ι H ρ σ ∧ wpS K XC W Acc ι μ H (f F ρ μ) D

section
variable {K : PySem.W.Frag} {XC : Nat → Addr} {F : Fns} {W : WX} {Acc : Addr → Prop} {ι ι1 ι2 : List Addr} {μ μ1 μ2 : Sto} {H H0 H1 H2 : Hp} {σ : L2.St} {D : Ends}
theorem wpS.shift {r : Res SO} (t : Stp K Acc ι μ H ι1 μ1 H1) (h : wpS K XC W Acc ι μ H r D) : wpS K XC W Acc ι1 μ1 H1 r D := by
  cases r with
  | bad => exact h
  | exc x μ' => exact fun ι' H' c d σ' t' e => h ι' H' c d σ' (t.trans t') (e.back t)
  | ok o μ' =>
    cases o with
    | nx ρ' => exact fun ι' H' σ' t' e => h ι' H' σ' (t.trans t') e
    | bk ρ' => exact fun ι' H' σ' t' e => h ι' H' σ' (t.trans t') e
    | ct ρ' => exact fun ι' H' σ' t' e => h ι' H' σ' (t.trans t') e
    | rt v => exact fun ι' H' u t' e o => h ι' H' u (t.trans t') (EvR.back t e) o
theorem rdS.last {f : SS} {ρ : Env} (t : Stp K Acc ι μ H ι1 μ1 H1) (E : EnvR K (Liv Acc μ1 ι1) ι1 H1 ρ σ) (h : wpS K XC W Acc ι μ H (f F ρ μ1) D) : rdS K XC F W f D σ H1 := ⟨Acc, ι1, ρ, μ1, t.sim, E, wpS.shift t h⟩
/-- an expression at a statement's head -/
theorem rd.stm {α β : Type} {Rel : (Addr → Prop) → Sto → List Addr → Hp → Hp → α → β → Prop} {f : Fns → Env → Sto → Res α} {ρ : Env} {g : α → Sto → Res SO} {P : β → Hp → Prop}
    (t : Stp K Acc ι μ H ι1 μ1 H1) (E : EnvR K (Liv Acc μ1 ι1) ι1 H1 ρ σ) (h : wpS K XC W Acc ι μ H ((f F ρ μ1).bind g) D)
    (k : ∀ a μ' b H', Stp K Acc ι1 μ1 H1 ι1 μ' H' → Rel Acc μ' ι1 H1 H' a b → wpS K XC W Acc ι μ H (g a μ') D → P b H') : rd K XC F W Rel f σ H1 P := by
  refine ⟨Acc, ι1, ρ, μ1, t.sim, E, ?_⟩
  cases e : f F ρ μ1 with
  | ok a μ' => rw [e] at h; exact fun b H' t' rl => k a μ' b H' t' rl h
  | exc x μ' => rw [e] at h; exact fun c d H' t' rl => h ι1 H' c d σ (t.trans t') (rl.back t)
  | bad => rw [e] at h; exact h
/-- a new object becomes a cell -/
theorem Sim.grow (S0 : Sim K Acc μ ι H) (t : Stp K Acc ι μ H ι1 μ1 H1) {c : CV} {p : Addr} (n : H p = none) (ow : Sim K (fun a => Acc a ∨ a = p) μ1 ι1 H1) (r : CvR K (Liv (fun a => Acc a ∨ a = p) μ1 ι1) H1 c p) : Stp K Acc ι μ H (ι1 ++ [p]) (μ1 ++ [⟨true, c⟩]) H1 := by
  have pn : p ∉ ι1 := (ow.acc p (.inr rfl)).1
  have hl : ι1.length = μ1.length := t.sim.len
  have cl : ∀ a, Cel (μ1 ++ [⟨true, c⟩]) (ι1 ++ [p]) a → Cel μ1 ι1 a ∨ a = p := fun a ⟨k, c', e, l, h⟩ => by
    by_cases hk : k < μ1.length
    · rw [List.getElem?_append_left hk] at e
      rw [List.getElem?_append_left (by omega)] at h
      exact .inl ⟨k, c', e, l, h⟩
    · by_cases hk2 : k = μ1.length
      · subst hk2
        rw [← hl, List.getElem?_append_right (Nat.le_refl _), Nat.sub_self] at h
        exact .inr (by simpa using h.symm)
      · rw [List.getElem?_eq_none (by rw [List.length_append, List.length_singleton]; omega)] at e
        cases e
  have m : Mv (Liv (fun a => Acc a ∨ a = p) μ1 ι1) H1 (Liv Acc (μ1 ++ [⟨true, c⟩]) (ι1 ++ [p])) H1 := fun a o e nl => ⟨e, fun z => nl (by
    rcases z with z | z
    · rcases cl a z with z | z
      · exact .inl z
      · exact .inr (.inr z)
    · exact .inr (.inl z))⟩
  refine ⟨⟨by rw [List.length_append, List.length_append, hl] <;> rfl, ?_, fun a ha => ⟨fun z => ?_, (t.sim.acc a ha).2⟩, fun k c' e => ?_, fun a z => ow.hot a (z.elim (fun z => (cl a z).elim .inl fun e => .inr (.inr e)) fun z => .inr (.inl z))⟩, ?_, t.keep, t.trk, fun a z => ?_⟩
  · exact List.nodup_append.mpr ⟨t.sim.nd, by simp, fun a ha b hb e => pn (by rw [List.mem_singleton.mp hb] at e; rw [← e]; exact ha)⟩
  · rcases List.mem_append.mp z with z | z
    · exact (t.sim.acc a ha).1 z
    · have e : a = p := List.mem_singleton.mp z
      subst e
      exact (S0.acc a ha).2 n
  · by_cases hk : k < μ1.length
    · rw [List.getElem?_append_left hk] at e
      obtain ⟨a, e1, r1⟩ := ow.cell k c' e
      exact ⟨a, by rw [List.getElem?_append_left (by omega)]; exact e1, r1.mv m fun _ e => e⟩
    · by_cases hk2 : k = μ1.length
      · subst hk2
        rw [List.getElem?_append_right (Nat.le_refl _), Nat.sub_self] at e
        have e' : c' = ⟨true, c⟩ := by simpa using e.symm
        subst e'
        refine ⟨p, by rw [← hl, List.getElem?_append_right (Nat.le_refl _), Nat.sub_self]; rfl, ?_⟩
        exact r.mv m fun _ e => e
      · rw [List.getElem?_eq_none (by rw [List.length_append, List.length_singleton]; omega)] at e
        cases e
  · obtain ⟨ex, e, ne⟩ := t.pre
    refine ⟨ex ++ [p], by rw [e, List.append_assoc], fun a ha => ?_⟩
    rcases List.mem_append.mp ha with ha | ha
    · exact ne a ha
    · rw [List.mem_singleton.mp ha]; exact n
  · rcases cl a z with z | z
    · exact t.liv a z
    · subst z; exact .inr n
end

/-! ### 2. what a slot gets -/
/-- a value is bound: a new object becomes a cell -/
def EV.bnd (v : EV) (μ : Sto) : SV × Sto := match v with
  | .dat d => (.dat d, μ)
  | .cel k => (.cel k, μ)
  | .new c => (.cel μ.length, μ ++ [⟨true, c⟩])
section
variable {K : PySem.W.Frag} {XC : Nat → Addr} {F : Fns} {W : WX} {Acc : Addr → Prop} {ι ι1 ι2 : List Addr} {μ μ1 μ2 : Sto} {H H0 H1 H2 : Hp} {σ : L2.St} {D : Ends}
theorem bnd_ok {v : EV} {x : V} (S : Sim K Acc μ ι H) (t : Stp K Acc ι μ H ι μ1 H1) (r : EvR K (Liv Acc μ1 ι) ι H H1 v x) (o : OwnR K Acc μ1 ι H1 v x) :
    ∃ ι', Stp K Acc ι μ H ι' (v.bnd μ1).2 H1 ∧ SvR K (Liv Acc (v.bnd μ1).2 ι') ι' H1 (v.bnd μ1).1 x := by
  cases v with
  | dat d => exact ⟨ι, t, r⟩
  | cel k => exact ⟨ι, t, r⟩
  | new c =>
    obtain ⟨p, e, n, _⟩ := r
    subst e
    obtain ⟨ow, rr⟩ := o p rfl
    refine ⟨ι ++ [p], Sim.grow S t n ow rr, p, ?_, rfl⟩
    show (ι ++ [p])[μ1.length]? = some p
    rw [← t.sim.len, List.getElem?_append_right (Nat.le_refl _), Nat.sub_self]; rfl

/-! ### 3. statements -/
def sSeq (a b : SS) : SS := fun F ρ μ => match a F ρ μ with
  | .ok (.nx ρ1) μ1 => b F ρ1 μ1
  | r => r
def sPass : SS := fun _ ρ μ => .ok (.nx ρ) μ
def sBrk : SS := fun _ ρ μ => .ok (.bk ρ) μ
def sCnt : SS := fun _ ρ μ => .ok (.ct ρ) μ
def sNever : SS := fun _ _ _ => .bad
def sDrop (e : SE) : SS := fun F ρ μ => (e F ρ μ).bind fun _ μ1 => .ok (.nx ρ) μ1
def sRet (e : SE) : SS := fun F ρ μ => (e F ρ μ).bind fun v μ1 => .ok (.rt v) μ1
def sRetN : SS := fun _ _ μ => .ok (.rt (.dat .non)) μ
def sIf (c : SB) (a b : SS) : SS := fun F ρ μ => (c F ρ μ).bind fun t μ1 => match t with
  | true => a F ρ μ1
  | false => b F ρ μ1
def sSet (i : Nat) (e : SE) : SS := fun F ρ μ => (e F ρ μ).bind fun v μ1 => .ok (.nx (ρ.set i (some (v.bnd μ1).1))) (v.bnd μ1).2
def sPar (i j : Nat) (a b : SE) : SS := fun F ρ μ => (a F ρ μ).bind fun v μ1 => (b F ρ (v.bnd μ1).2).bind fun w μ2 =>
  .ok (.nx ((ρ.set i (some (v.bnd μ1).1)).set j (some (w.bnd μ2).1))) (w.bnd μ2).2
def sPar3 (i j l : Nat) (a b c : SE) : SS := fun F ρ μ => (a F ρ μ).bind fun v μ1 => (b F ρ (v.bnd μ1).2).bind fun w μ2 => (c F ρ (w.bnd μ2).2).bind fun u μ3 =>
  .ok (.nx (((ρ.set i (some (v.bnd μ1).1)).set j (some (w.bnd μ2).1)).set l (some (u.bnd μ3).1))) (u.bnd μ3).2
def whL (c : Env → Sto → Res Bool) (b : Env → Sto → Res SO) : Nat → Env → Sto → Res SO
  | 0, _, _ => .bad
  | n + 1, ρ, μ => (c ρ μ).bind fun t μ1 => match t with
    | true => match b ρ μ1 with
      | .ok (.nx ρ1) μ2 => whL c b n ρ1 μ2
      | .ok (.ct ρ1) μ2 => whL c b n ρ1 μ2
      | .ok (.bk ρ1) μ2 => .ok (.nx ρ1) μ2
      | r => r
    | false => .ok (.nx ρ) μ1
def sWhile (c : SB) (b : SS) : SS := fun F ρ μ => whL (c F) (b F) LIM ρ μ
end
section
variable {X : Cx} {XC : Nat → Addr} {F : Fns} {W : WX} {st : Stmt} {rest : List Stmt} {pos : Pos}
theorem wpS.k {K : PySem.W.Frag} {Acc : Addr → Prop} {ι ι1 : List Addr} {μ μ1 : Sto} {H H1 : Hp} {D : Ends} {f : SS} {ρ : Env} {σ : L2.St} (t : Stp K Acc ι μ H ι1 μ1 H1) (E : EnvR K (Liv Acc μ1 ι1) ι1 H1 ρ σ) (h : wpS K XC W Acc ι μ H (f F ρ μ1) D) : rdS K XC F W f D σ H1 := rdS.last t E h
theorem s_seq {a b : SS} (h1 : PS X st (rdS X.K XC F W a)) (h2 : PSs X rest (rdS X.K XC F W b)) : PSs X (st :: rest) (rdS X.K XC F W (sSeq a b)) :=
  PSsimp (pss_cons h1 h2) fun D σ H ⟨Acc, ι, ρ, μ, S, E, h⟩ => by
    refine ⟨Acc, ι, ρ, μ, S, E, ?_⟩
    unfold sSeq at h
    cases e : a F ρ μ with
    | bad => rw [e] at h; exact h
    | exc x μ1 => rw [e] at h; exact h
    | ok o μ1 =>
      rw [e] at h
      cases o with
      | nx ρ1 => exact fun ι' H' σ' t E' => wpS.k t E' h
      | rt v => exact h
      | bk ρ1 => exact h
      | ct ρ1 => exact h
theorem s_one {a : SS} (h1 : PS X st (rdS X.K XC F W a)) : PSs X [st] (rdS X.K XC F W a) := pss_one h1
theorem s_nil : PSs X [] (rdS X.K XC F W sPass) := PSsimp pss_nil fun D σ H ⟨Acc, ι, ρ, μ, S, E, h⟩ => h ι H σ (.refl S) E
theorem s_pass : PS X (.Pass pos) (rdS X.K XC F W sPass) := PSimp ps_pass fun D σ H ⟨Acc, ι, ρ, μ, S, E, h⟩ => h ι H σ (.refl S) E
theorem s_brk : PS X (.Break pos) (rdS X.K XC F W sBrk) := PSimp ps_break fun D σ H ⟨Acc, ι, ρ, μ, S, E, h⟩ => h ι H σ (.refl S) E
theorem s_cnt : PS X (.Continue pos) (rdS X.K XC F W sCnt) := PSimp ps_continue fun D σ H ⟨Acc, ι, ρ, μ, S, E, h⟩ => h ι H σ (.refl S) E
theorem s_never : PS X st (rdS X.K XC F W sNever) := PSimp ps_never fun D σ H ⟨Acc, ι, ρ, μ, S, E, h⟩ => h
theorem ss_never {sts : List Stmt} : PSs X sts (rdS X.K XC F W sNever) := PSsimp pss_never fun D σ H ⟨Acc, ι, ρ, μ, S, E, h⟩ => h
theorem s_doc {x j pos pos'} : PS X (.Expr (.Constant (.str x) j pos) pos') (rdS X.K XC F W sPass) := PSimp ps_doc fun D σ H ⟨Acc, ι, ρ, μ, S, E, h⟩ => h ι H σ (.refl S) E
theorem s_drop {e : Expr} {fe : SE} (he : PE X e (rdE X.K XC F W fe)) (hs : swapsWith e none pos.line X.env = pure false := by rfl) : PS X (.Expr e pos) (rdS X.K XC F W (sDrop fe)) :=
  PSimp (ps_expr he hs) fun D σ H ⟨Acc, ι, ρ, μ, S, E, h⟩ => by
    refine rd.stm (Stp.refl S) E h fun v μ1 b H1 t1 r1 h1 => ?_
    exact h1 ι H1 σ t1 (E.mv t1 S)
theorem s_ret {e : Expr} {fe : SE} (he : PE X e (rdE X.K XC F W fe)) : PS X (.Return (some e) pos) (rdS X.K XC F W (sRet fe)) :=
  PSimp (ps_ret he) fun D σ H ⟨Acc, ι, ρ, μ, S, E, h⟩ => by
    refine rd.stm (Stp.refl S) E h fun v μ1 b H1 t1 r1 h1 => ?_
    exact h1 ι H1 b t1 r1.1 r1.2
theorem s_retN : PS X (.Return none pos) (rdS X.K XC F W sRetN) := PSimp ps_retN fun D σ H ⟨Acc, ι, ρ, μ, S, E, h⟩ => h ι H V.non (.refl S) rfl trivial
theorem s_if {c : Expr} {a b : List Stmt} {fc : SB} {fa fb : SS} (hc : PT X c (rdB X.K XC F W fc)) (ha : PSs X a (rdS X.K XC F W fa)) (hb : PSs X b (rdS X.K XC F W fb)) : PS X (.If c a b pos) (rdS X.K XC F W (sIf fc fa fb)) :=
  PSimp (ps_if hc ha hb) fun D σ H ⟨Acc, ι, ρ, μ, S, E, h⟩ => by
    refine rd.stm (Stp.refl S) E h fun v μ1 b H1 t1 r1 h1 => ?_
    have r1 : b = v := r1
    subst r1
    cases b with
    | true => rw [if_pos rfl]; exact wpS.k t1 (E.mv t1 S) h1
    | false => rw [if_neg Bool.false_ne_true]; exact wpS.k t1 (E.mv t1 S) h1
theorem s_set {i : Nat} {x : Str} {e : Expr} {fe : SE} {pos' : Pos} (hN : X.N.Nodup) (hi : X.N[i]? = some x) (hx : Loc X.env.scope x) (he : PE X e (rdE X.K XC F W fe)) (hs : swapsWith e (some (.Name x pos')) pos.line X.env = pure false := by rfl) (hf : X.fn x = true ∨ X.env.scope.names.lookup x = some .local := by first | exact .inl rfl | exact .inr rfl | assumption) :
    PS X (.Assign [.Name x pos'] e pos) (rdS X.K XC F W (sSet i fe)) :=
  PSimp (ps_set hN hi hx he hs hf) fun D σ H ⟨Acc, ι, ρ, μ, S, E, h⟩ => by
    refine rd.stm (Stp.refl S) E h fun v μ1 b H1 t1 r1 h1 => ?_
    obtain ⟨ι', t', r'⟩ := bnd_ok S t1 r1.1 r1.2
    exact h1 ι' H1 _ t' ((E.mv t' S).set r')
theorem s_par {i j : Nat} {x y : Str} {a b : Expr} {fa fb : SE} {px py pt : Pos} {kt k2 pt2} (hc : X.calm = true) (hN : X.N.Nodup) (hi : X.N[i]? = some x) (hj : X.N[j]? = some y) (hij : i ≠ j)
    (hx : X.env.scope.names.lookup x = some .local) (hy : X.env.scope.names.lookup y = some .local) (ha : PE X a (rdE X.K XC F W fa)) (hb : PE X b (rdE X.K XC F W fb))
    (hw : swappedStores [.Tuple [.Name x px, .Name y py] kt pt] (.Tuple [a, b] k2 pt2) X.env = pure (some [x, y]))
    (h1 : starEach [a, b] X.env = (false, eval a X.env) :: starEach [b] X.env := by rfl) (h2 : starEach [b] X.env = (false, eval b X.env) :: starEach [] X.env := by rfl)
    (hs : swapsWithSole [.Tuple [.Name x px, .Name y py] kt pt] (.Tuple [a, b] k2 pt2) pos.line X.env = pure false := by rfl) :
    PS X (.Assign [.Tuple [.Name x px, .Name y py] kt pt] (.Tuple [a, b] k2 pt2) pos) (rdS X.K XC F W (sPar i j fa fb)) :=
  PSimp (ps_par hc hN hi hj hij hx hy (pa_cons ha (pa_cons hb pa_nil h2) h1) hw hs) fun D σ H ⟨Acc, ι, ρ, μ, S, E, h⟩ => by
    refine rd.stm (Stp.refl S) E h fun v μ1 c1 H1 t1 r1 h1 => ?_
    obtain ⟨ι1, t1', s1⟩ := bnd_ok S t1 r1.1 r1.2
    refine rd.stm t1' (E.mv t1' S) h1 fun w μ2 c2 H2 t2 r2 h2 => ?_
    obtain ⟨ι2, t2', s2⟩ := bnd_ok t1'.sim t2 r2.1 r2.2
    refine ⟨c1, c2, rfl, h2 ι2 H2 _ (t1'.trans t2') ?_⟩
    exact ((E.mv (t1'.trans t2') S).set (s1.mv t2' t1'.sim)).set s2
theorem s_par3 {i j l : Nat} {x y z : Str} {a b c : Expr} {fa fb fc : SE} {px py pz pt : Pos} {kt k2 pt2} (hc : X.calm = true) (hN : X.N.Nodup) (hi : X.N[i]? = some x) (hj : X.N[j]? = some y) (hl : X.N[l]? = some z) (hij : i ≠ j) (hil : i ≠ l) (hjl : j ≠ l)
    (hx : X.env.scope.names.lookup x = some .local) (hy : X.env.scope.names.lookup y = some .local) (hz : X.env.scope.names.lookup z = some .local) (ha : PE X a (rdE X.K XC F W fa)) (hb : PE X b (rdE X.K XC F W fb)) (hcc : PE X c (rdE X.K XC F W fc))
    (hw : swappedStores [.Tuple [.Name x px, .Name y py, .Name z pz] kt pt] (.Tuple [a, b, c] k2 pt2) X.env = pure (some [x, y, z]))
    (h1 : starEach [a, b, c] X.env = (false, eval a X.env) :: starEach [b, c] X.env := by rfl) (h2 : starEach [b, c] X.env = (false, eval b X.env) :: starEach [c] X.env := by rfl) (h3 : starEach [c] X.env = (false, eval c X.env) :: starEach [] X.env := by rfl)
    (hs : swapsWithSole [.Tuple [.Name x px, .Name y py, .Name z pz] kt pt] (.Tuple [a, b, c] k2 pt2) pos.line X.env = pure false := by rfl) :
    PS X (.Assign [.Tuple [.Name x px, .Name y py, .Name z pz] kt pt] (.Tuple [a, b, c] k2 pt2) pos) (rdS X.K XC F W (sPar3 i j l fa fb fc)) :=
  PSimp (ps_par3 hc hN hi hj hl hij hil hjl hx hy hz (pa_cons ha (pa_cons hb (pa_cons hcc pa_nil h3) h2) h1) hw hs) fun D σ H ⟨Acc, ι, ρ, μ, S, E, h⟩ => by
    refine rd.stm (Stp.refl S) E h fun v μ1 c1 H1 t1 r1 h1 => ?_
    obtain ⟨ι1, t1', s1⟩ := bnd_ok S t1 r1.1 r1.2
    refine rd.stm t1' (E.mv t1' S) h1 fun w μ2 c2 H2 t2 r2 h2 => ?_
    obtain ⟨ι2, t2', s2⟩ := bnd_ok t1'.sim t2 r2.1 r2.2
    have t12 := t1'.trans t2'
    refine rd.stm t12 (E.mv t12 S) h2 fun u μ3 c3 H3 t3 r3 h3 => ?_
    obtain ⟨ι3, t3', s3⟩ := bnd_ok t2'.sim t3 r3.1 r3.2
    refine ⟨c1, c2, c3, rfl, h3 ι3 H3 _ (t12.trans t3') ?_⟩
    exact (((E.mv (t12.trans t3') S).set (s1.mv (t2'.trans t3') t1'.sim)).set (s2.mv t3' t2'.sim)).set s3
theorem s_while {c : Expr} {body : List Stmt} {fc : SB} {fb : SS} (hp : PassesOwn (model X.prog X.w) X.A X.env X.xe) (hc : PT X c (rdB X.K XC F W fc)) (hb : PSs X body (rdS X.K XC F W fb)) : PS X (.While c body [] pos) (rdS X.K XC F W (sWhile fc fb)) :=
  PSimp (ps_while hp hc hb) fun D σ H ⟨Acc, ι, ρ, μ, S, E, h⟩ => by
    refine ⟨fun m σ H => ∃ (Acc : Addr → Prop) (ι : List Addr) (ρ : Env) (μ : Sto), Sim X.K Acc μ ι H ∧ EnvR X.K (Liv Acc μ ι) ι H ρ σ ∧ wpS X.K XC W Acc ι μ H (whL (fc F) (fb F) m ρ μ) D, ⟨LIM, Acc, ι, ρ, μ, S, E, h⟩, ?_⟩
    rintro m σ H ⟨Acc, ι, ρ, μ, S, E, h⟩
    cases m with
    | zero => exact h.elim
    | succ m =>
      unfold whL at h
      refine rd.stm (f := fc) (Stp.refl S) E h fun v μ1 b H1 t1 r1 h1 => ?_
      have r1 : b = v := r1
      subst r1
      cases b with
      | false => rw [if_neg Bool.false_ne_true]; exact h1 ι H1 σ t1 (E.mv t1 S)
      | true =>
        rw [if_pos rfl]
        refine ⟨fun σ' H' => ∃ (Acc : Addr → Prop) (ι : List Addr) (ρ : Env) (μ : Sto), Sim X.K Acc μ ι H' ∧ EnvR X.K (Liv Acc μ ι) ι H' ρ σ' ∧ wpS X.K XC W Acc ι μ H' (whL (fc F) (fb F) m ρ μ) D, fun σ' H' q => ⟨m, Nat.lt_succ_self m, q⟩, ?_⟩
        refine ⟨Acc, ι, ρ, μ1, t1.sim, E.mv t1 S, ?_⟩
        replace h1 := wpS.shift t1 h1
        simp only at h1
        cases e : fb F ρ μ1 with
        | bad => rw [e] at h1; exact h1
        | exc x μ2 => rw [e] at h1; exact h1
        | ok o μ2 =>
          rw [e] at h1
          cases o with
          | rt v => exact h1
          | bk ρ2 => exact fun ι' H' σ' t' E' => h1 ι' H' σ' t' E'
          | nx ρ2 => exact fun ι' H' σ' t' E' => ⟨Acc, ι', ρ2, μ2, t'.sim, E', wpS.shift t' h1⟩
          | ct ρ2 => exact fun ι' H' σ' t' E' => ⟨Acc, ι', ρ2, μ2, t'.sim, E', wpS.shift t' h1⟩
end
end VM
/-! Stores into cells; targets; the for loop; methods of lists and dicts. -/
namespace VM
open PySem L2 PyProof.Rows

/-! ### 1. a live cell is written -/
section
variable {K : PySem.W.Frag} {Acc : Addr → Prop} {ι : List Addr} {μ : Sto} {H : Hp}
theorem Sim.put (S : Sim K Acc μ ι H) {k : Nat} {c : Cell} {a : Addr} {c' : CV} {o : HO} (hc : μ[k]? = some c) (hl : c.live = true) (ha : ι[k]? = some a)
    (r : ∀ H', Mv (Liv Acc μ ι) H (Liv Acc μ ι) H' → H' a = some o → CvR K (Liv Acc μ ι) H' c' a) (ho : ∀ o' kvs, o ≠ .frz o' (.dK kvs) := by intro _ _ z; cases z) : Stp K Acc ι μ H ι (μ.set k ⟨true, c'⟩) (upd H a o) := by
  have hk : k < μ.length := (List.getElem?_eq_some_iff.mp hc).1
  have la : Cel μ ι a := ⟨k, c, hc, hl, ha⟩
  have le : ∀ b, Cel (μ.set k ⟨true, c'⟩) ι b ↔ Cel μ ι b := fun b => by
    constructor
    · rintro ⟨j, d, e, l, h⟩
      by_cases hj : k = j
      · subst hj
        exact ⟨k, c, hc, hl, h⟩
      · rw [List.getElem?_set_ne hj] at e
        exact ⟨j, d, e, l, h⟩
    · rintro ⟨j, d, e, l, h⟩
      by_cases hj : k = j
      · subst hj
        exact ⟨k, _, List.getElem?_set_self hk, rfl, h⟩
      · exact ⟨j, d, by rw [List.getElem?_set_ne hj]; exact e, l, h⟩
  have kp : ∀ b u, H b = some u → b ≠ a → upd H a o b = some u := fun b u e n => by rw [upd_ne n]; exact e
  have m : Mv (Liv Acc μ ι) H (Liv Acc μ ι) (upd H a o) := fun b u e n => ⟨kp b u e fun z => n (.inl (z ▸ la)), n⟩
  have m' : Mv (Liv Acc μ ι) (upd H a o) (Liv Acc (μ.set k ⟨true, c'⟩) ι) (upd H a o) := fun b u e n => ⟨e, fun z => n (z.imp (fun z => (le b).mp z) id)⟩
  have tk : ∀ b, H b ≠ none → upd H a o b ≠ none := fun b h => by
    by_cases e : b = a
    · subst e; rw [upd_same]; simp
    · rw [upd_ne e]; exact h
  refine ⟨⟨by rw [List.length_set]; exact S.len, S.nd, fun b h => ⟨(S.acc b h).1, tk b (S.acc b h).2⟩, fun j d e => ?_, fun b h o' kvs => ?_⟩, ⟨[], by simp, by simp⟩, fun b u e n => kp b u e fun z => n (z ▸ la), tk, fun b h => .inl ((le b).mp h)⟩
  rotate_left
  · by_cases e : b = a
    · subst e; rw [upd_same]; exact fun z => ho o' kvs (by cases z; rfl)
    · rw [upd_ne e]; exact S.hot b (h.imp (fun z => (le b).mp z) id) o' kvs
  by_cases hj : k = j
  · subst hj
    rw [List.getElem?_set_self hk] at e
    cases e
    exact ⟨a, ha, (r _ m upd_same).mv m' fun _ e => e⟩
  · rw [List.getElem?_set_ne hj] at e
    obtain ⟨b, e1, r1⟩ := S.cell j d e
    refine ⟨b, e1, (r1.mv m fun u hu => kp b u hu ?_).mv m' fun _ e => e⟩
    rintro rfl
    have hi : k < ι.length := (List.getElem?_eq_some_iff.mp ha).1
    exact hj ((List.getElem?_inj hi S.nd).mp (ha.trans e1.symm))
end

/-! ### 2. targets -/
abbrev SG := D → Fns → Env → Sto → Res Env
def wpG (K : PySem.W.Frag) (XC : Nat → Addr) (W : WX) (Acc : Addr → Prop) (ι : List Addr) (μ : Sto) (H : Hp) (r : Res Env) (Q : L2.St → Hp → Prop) : Prop := match r with
  | .ok ρ' μ' => ∀ σ' H', Stp K Acc ι μ H ι μ' H' → EnvR K (Liv Acc μ' ι) ι H' ρ' σ' → Q σ' H'
  | .exc x μ' => ∀ c d σ' H', Stp K Acc ι μ H ι μ' H' → ExcR K XC (Liv Acc μ' ι) H H' x c d → W c d σ' H'
  | .bad => False
def rdG (K : PySem.W.Frag) (XC : Nat → Addr) (F : Fns) (W : WX) (g : SG) : TG := fun v σ H Q =>
  ∃ (Acc : Addr → Prop) (ι : List Addr) (ρ : Env) (μ : Sto) (d : D), Sim K Acc μ ι H ∧ EnvR K (Liv Acc μ ι) ι H ρ σ ∧ Rep K (Liv Acc μ ι) H d v ∧ wpG K XC W Acc ι μ H (g d F ρ μ) Q
def sgs : List SG → List D → Fns → Env → Sto → Res Env
  | [], [], _, ρ, μ => .ok ρ μ
  | g :: gs, d :: ds, F, ρ, μ => (g d F ρ μ).bind fun ρ1 μ1 => sgs gs ds F ρ1 μ1
  | _, _, _, _, _ => .bad
def rdGs (K : PySem.W.Frag) (XC : Nat → Addr) (F : Fns) (W : WX) (gs : List SG) : TGs := fun vs σ H Q =>
  ∃ (Acc : Addr → Prop) (ι : List Addr) (ρ : Env) (μ : Sto) (ds : List D), Sim K Acc μ ι H ∧ EnvR K (Liv Acc μ ι) ι H ρ σ ∧ Reps K (Liv Acc μ ι) H ds vs ∧ wpG K XC W Acc ι μ H (sgs gs ds F ρ μ) Q
def gNm (i : Nat) : SG := fun d _ ρ μ => .ok (ρ.set i (some (.dat d))) μ
def gTp (gs : List SG) : SG := fun d F ρ μ => match d with
  | .tup ds => if ds.length = gs.length then sgs gs ds F ρ μ else .bad
  | _ => .bad
/-- the store of one place -/
def putAt (c : CV) (i d : D) : Option CV := match c, i with
  | .lst ds, .int k => match ixN ds.length k with
    | some j => some (.lst (ds.set j d))
    | none => none
  | .dic ks ds, i => match i.key with
    | some k => if ndK ks && decide (ks.length < LIM) then some (.dic (dput ks ds k d).1 (dput ks ds k d).2) else none
    | none => none
  | .dct ks ds, i => match i.tkey with
    | some k => if ndT ks && decide (ks.length < LIM) then some (.dct (tput ks ds k d).1 (tput ks ds k d).2) else none
    | none => none
  | _, _ => none
def gSb (o i : SE) : SG := fun d F ρ μ => (o F ρ μ).bind fun v μ1 => (i F ρ μ1).bind fun w μ2 => match v with
  | .cel k => match w.see μ2, μ2[k]? with
    | some iv, some c => match c.live, putAt c.val iv d with
      | true, some c' => .ok ρ (μ2.set k ⟨true, c'⟩)
      | _, _ => .bad
    | _, _ => .bad
  | _ => .bad
def sAsg (e : SE) (g : SG) : SS := fun F ρ μ => (e F ρ μ).bind fun v μ1 => match v.frz μ1 with
  | some (d, μ2) => (g d F ρ μ2).bind fun ρ1 μ3 => .ok (.nx ρ1) μ3
  | none => .bad

def rSetLD : TSet := fun o i v H Q => rSetL o i v H Q ∨ rSetD o i v H Q
theorem set_ld {X : Cx} (hu : X.A.units + 1 < cLine) : PSet X rSetLD := fun pins s σ H o i v ov iv u Q I ro ri rv h =>
  h.elim (fun h => set_list pins s σ H o i v ov iv u Q I ro ri rv h) fun h => set_dict hu pins s σ H o i v ov iv u Q I ro ri rv h
theorem putAt_ok {K : PySem.W.Frag} {L : Addr → Prop} {H : Hp} {c c' : CV} {i d : D} {a : Addr} {y v : V} (h : putAt c i d = some c') (r : CvR K L H c a) (hot : Hot H a) (ry : SeeR K L H i y) (rv : Rep K L H d v) :
    ∃ o', (∀ o'' kvs, o' ≠ .frz o'' (.dK kvs)) ∧ (∀ Q : Hp → Prop, Q (upd H a o') → rSetLD (.ref a) y v H Q) ∧ ∀ H', Mv L H L H' → H' a = some o' → CvR K L H' c' a := by
  cases c with
  | lst ds =>
    obtain ⟨vs, e, rr⟩ := r
    cases i <;> simp only [putAt, reduceCtorEq] at h
    rename_i k
    cases hj : ixN ds.length k with
    | none => rw [hj] at h; cases h
    | some j =>
      rw [hj] at h
      cases h
      have ey : y = .int k := by simpa only [SeeR, Rep] using ry
      subst ey
      exact ⟨.lst (vs.set j v), fun _ _ z => (by cases z), fun Q q => .inl ⟨a, vs, k, j, rfl, rfl, e, by rw [rr.len]; exact hj, q⟩, fun H' m e' => ⟨_, e', Reps.mv m _ _ (Reps.set j rr rv)⟩⟩
  | dic ks ds =>
    obtain ⟨vs, e, l, rr⟩ := r
    simp only [putAt] at h
    cases hk : i.key with
    | none => rw [hk] at h; cases h
    | some k =>
      rw [hk] at h
      simp only at h
      split at h
      case isFalse => cases h
      case isTrue hz =>
        cases h
        rw [Bool.and_eq_true, decide_eq_true_eq] at hz
        have ey := key_rep hk ry
        subst ey
        obtain ⟨ws, e1, r1⟩ := val_put (ndK_ok hz.1) l rr rv
        have e : H a = some (.dK (ks.zip vs)) := e.elim id fun ⟨o, e⟩ => absurd e (hot o _)
        refine ⟨.dK (putK (ks.zip vs) k v), fun _ _ z => (by cases z), fun Q q => .inr ⟨a, _, rfl, DPut.k e ?_, q⟩, fun H' m e' => ⟨ws, .inl (by rw [e', e1]), dput_len l, Reps.mv m _ _ r1⟩⟩
        rw [List.length_zip]
        have := lim_ok (Nat.le_of_lt hz.2)
        have h2 : LIM < sizeLine := by decide
        omega
  | dct ks ds =>
    obtain ⟨vs, e, l, rr⟩ := r
    simp only [putAt] at h
    cases hk : i.tkey with
    | none => rw [hk] at h; cases h
    | some k =>
      rw [hk] at h
      simp only at h
      split at h
      case isFalse => cases h
      case isTrue hz =>
        cases h
        rw [Bool.and_eq_true, decide_eq_true_eq] at hz
        obtain ⟨b', rfl, eb⟩ := tkey_rep hk ry
        obtain ⟨ws, e1, r1⟩ := val_putT (ndT_ok hz.1) l rr rv
        refine ⟨.dT (putK (ks.zip vs) k v), fun _ _ z => (by cases z), fun Q q => .inr ⟨a, _, rfl, DPut.t e eb ?_, q⟩, fun H' m e' => ⟨ws, by rw [e', e1], tput_len l, Reps.mv m _ _ r1⟩⟩
        rw [List.length_zip]
        have := lim_ok (Nat.le_of_lt hz.2)
        have h2 : LIM < sizeLine := by decide
        omega
section
variable {K : PySem.W.Frag} {XC : Nat → Addr} {F : Fns} {W : WX} {Acc : Addr → Prop} {ι ι1 ι2 : List Addr} {μ μ1 μ2 : Sto} {H H0 H1 H2 : Hp} {σ : L2.St}
/-- an expression in a target -/
theorem rd.tgt {α β : Type} {Rel : (Addr → Prop) → Sto → List Addr → Hp → Hp → α → β → Prop} {f : Fns → Env → Sto → Res α} {ρ : Env} {g : α → Sto → Res Env} {P : β → Hp → Prop} {Q : L2.St → Hp → Prop}
    (t : Stp K Acc ι μ H ι μ1 H1) (E : EnvR K (Liv Acc μ1 ι) ι H1 ρ σ) (h : wpG K XC W Acc ι μ H ((f F ρ μ1).bind g) Q)
    (k : ∀ a μ' b H', Stp K Acc ι μ1 H1 ι μ' H' → Rel Acc μ' ι H1 H' a b → wpG K XC W Acc ι μ H (g a μ') Q → P b H') : rd K XC F W Rel f σ H1 P := by
  refine ⟨Acc, ι, ρ, μ1, t.sim, E, ?_⟩
  cases e : f F ρ μ1 with
  | ok a μ' => rw [e] at h; exact fun b H' t' rl => k a μ' b H' t' rl h
  | exc x μ' => rw [e] at h; exact fun c d H' t' rl => h c d σ H' (t.trans t') (rl.back t)
  | bad => rw [e] at h; exact h
theorem wpG.shift {r : Res Env} {Q : L2.St → Hp → Prop} (t : Stp K Acc ι μ H ι μ1 H1) (h : wpG K XC W Acc ι μ H r Q) : wpG K XC W Acc ι μ1 H1 r Q := by
  cases r with
  | bad => exact h
  | exc x μ' => exact fun c d σ' H' t' e => h c d σ' H' (t.trans t') (e.back t)
  | ok o μ' => exact fun σ' H' t' e => h σ' H' (t.trans t') e
end
theorem PGimp {X : Cx} {e : Expr} {t t' : TG} (h : PG X e t) (i : ∀ v σ H Q, t' v σ H Q → t v σ H Q) : PG X e t' := ⟨fun pins s σ H v u Q I r q => h.run pins s σ H v u Q I r (i v σ H Q q)⟩
theorem PGsimp {X : Cx} {e : List Expr} {t t' : TGs} (h : PGs X e t) (i : ∀ v σ H Q, t' v σ H Q → t v σ H Q) : PGs X e t' := ⟨fun pins s σ H v u Q I r q => h.run pins s σ H v u Q I r (i v σ H Q q)⟩
section
variable {X : Cx} {XC : Nat → Addr} {F : Fns} {W : WX} {pos : Pos}
theorem g_nm {i : Nat} {x : Str} (hN : X.N.Nodup) (hi : X.N[i]? = some x) (hx : Loc X.env.scope x) (hf : X.fn x = true ∨ X.env.scope.names.lookup x = some .local := by first | exact .inl rfl | exact .inr rfl | assumption) : PG X (.Name x pos) (rdG X.K XC F W (gNm i)) :=
  PGimp (pg_name hN hi hx hf) fun v σ H Q ⟨Acc, ι, ρ, μ, d, S, E, r, h⟩ => h _ H (.refl S) (E.set (s := .dat d) r)
theorem gs_nil : PGs X [] (rdGs X.K XC F W []) :=
  PGsimp pgs_nil fun vs σ H Q ⟨Acc, ι, ρ, μ, ds, S, E, r, h⟩ => by
    cases ds with
    | nil => exact ⟨r.invN, h σ H (.refl S) E⟩
    | cons d ds => exact h.elim
theorem gs_cons {e : Expr} {es : List Expr} {g : SG} {gs : List SG} (h1 : PG X e (rdG X.K XC F W g)) (h2 : PGs X es (rdGs X.K XC F W gs))
    (hs : (assignEach (e :: es) X.env).map (·.2) = assign e X.env :: (assignEach es X.env).map (·.2) := by rfl) : PGs X (e :: es) (rdGs X.K XC F W (g :: gs)) :=
  PGsimp (pgs_cons h1 h2 hs) fun vs σ H Q ⟨Acc, ι, ρ, μ, ds, S, E, r, h⟩ => by
    cases ds with
    | nil => exact h.elim
    | cons d ds =>
      obtain ⟨v, rs, rfl, r1, r2⟩ := r.inv
      refine ⟨v, rs, rfl, Acc, ι, ρ, μ, d, S, E, r1, ?_⟩
      unfold sgs at h
      cases e : g d F ρ μ with
      | bad => rw [e] at h; exact h
      | exc x μ1 => rw [e] at h; exact h
      | ok ρ1 μ1 =>
        rw [e] at h
        exact fun σ' H' t' E' => ⟨Acc, ι, ρ1, μ1, ds, t'.sim, E', Reps.mv (t'.mv S) _ _ r2, wpG.shift t' h⟩
theorem g_tp {es : List Expr} {k : Nat} {gs : List SG} {n : Nat} (hc : X.calm = true) (h : PGs X es (rdGs X.K XC F W gs)) (hl : gs.length = n := by rfl)
    (hn : (assignEach es X.env).length = n := by rfl) (hst : (assignEach es X.env).findIdx? (·.1) = none := by rfl) : PG X (.Tuple es k pos) (rdG X.K XC F W (gTp gs)) :=
  PGimp (pg_tup hc h hn hst) fun v σ H Q ⟨Acc, ι, ρ, μ, d, S, E, r, h⟩ => by
    cases d <;> try exact h.elim
    rename_i ds
    simp only [gTp] at h
    split at h
    case isFalse => exact h.elim
    case isTrue hz =>
      simp only [Rep] at r
      obtain ⟨a, vs, rfl, t, r⟩ := r
      exact ⟨a, vs, rfl, t.sq, by rw [r.len, hz, hl], Acc, ι, ρ, μ, ds, S, E, r, h⟩
theorem g_sb {o i : Expr} {fo fi : SE} (hu : X.A.units + 1 < cLine) (ho : PE X o (rdE X.K XC F W fo)) (hi : PE X i (rdE X.K XC F W fi))
    (ha : ∀ v, assign (.Subscript o i pos) X.env v = (do
      let ov ← holding [v] (eval o X.env)
      let iv ← holding [v, ov] (eval i X.env)
      standAt pos
      holding [v, ov, iv] (setItem ov iv v)
      release [v, ov, iv] []) := by intro _; rfl) : PG X (.Subscript o i pos) (rdG X.K XC F W (gSb fo fi)) :=
  PGimp (pg_sub ho hi (set_ld hu) ha) fun v σ H Q ⟨Acc, ι, ρ, μ, d, S, E, r, h⟩ => by
    refine rd.tgt (Stp.refl S) E h fun a μ1 x H1 t1 r1 h1 => ?_
    refine rd.tgt t1 (E.mv t1 S) h1 fun b μ2 y H2 t2 r2 h2 => ?_
    have t12 := t1.trans t2
    cases a with
    | dat _ => exact h2.elim
    | new _ => exact h2.elim
    | cel k =>
      obtain ⟨ad, ek, ex⟩ := r1.1
      subst ex
      simp only at h2
      cases hs : b.see μ2 with
      | none => rw [hs] at h2; exact h2.elim
      | some iv =>
        cases hc : μ2[k]? with
        | none => rw [hs, hc] at h2; exact h2.elim
        | some c =>
          rw [hs, hc] at h2
          simp only at h2
          cases hl : c.live with
          | false => rw [hl] at h2; exact h2.elim
          | true =>
            cases hp : putAt c.val iv d with
            | none => rw [hl, hp] at h2; exact h2.elim
            | some c' =>
              rw [hl, hp] at h2
              simp only at h2
              obtain ⟨b2, e2, rc⟩ := t2.sim.cell k c hc
              rw [ek] at e2; cases e2
              obtain ⟨o', q0, q1, q2⟩ := putAt_ok hp rc (t2.sim.hot _ (.inl ⟨k, c, hc, hl, ek⟩)) (see_ok t2.sim r2.1 hs) (Rep.mv (t12.mv S) _ _ r)
              have tp := t2.sim.put hc hl ek q2 q0
              exact q1 _ (h2 σ _ (t12.trans tp) (E.mv (t12.trans tp) S))
theorem s_asg {tg e : Expr} {fe : SE} {g : SG} (he : PE X e (rdE X.K XC F W fe)) (hg : PG X tg (rdG X.K XC F W g)) (hs : swapsWithSole [tg] e pos.line X.env = pure false := by rfl) (hw : swappedStores [tg] e X.env = pure none := by rfl)
    (h1 : (assignEach [tg] X.env).map (·.2) = [assign tg X.env] := by rfl) : PS X (.Assign [tg] e pos) (rdS X.K XC F W (sAsg fe g)) :=
  PSimp (ps_asg he hg hs hw h1) fun D σ H ⟨Acc, ι, ρ, μ, S, E, h⟩ => by
    refine rd.stm (Stp.refl S) E h fun v μ1 x H1 t1 r1 h1 => ?_
    cases hz : v.frz μ1 with
    | none => rw [hz] at h1; exact h1.elim
    | some p =>
      obtain ⟨d, μ2⟩ := p
      rw [hz] at h1
      simp only at h1
      obtain ⟨t2, rd⟩ := frz_ok t1.sim (fun a h => S.trk h) (fun a h => (S.acc a h).2) r1.1 hz
      have t12 := t1.trans t2
      refine ⟨Acc, ι, ρ, μ2, d, t2.sim, E.mv t12 S, rd, ?_⟩
      cases e : g d F ρ μ2 with
      | bad => rw [e] at h1; exact h1
      | exc x μ3 => rw [e] at h1; exact fun c da σ' H' t' e' => h1 ι H' c da σ' (t12.trans t') (e'.back t12)
      | ok ρ1 μ3 => rw [e] at h1; exact fun σ' H' t' E' => h1 ι H' σ' (t12.trans t') E'
end
end VM
/-! The for loop; methods of lists and dicts. -/
namespace VM
open PySem L2 PyProof.Rows

def forL (F : Fns) (s : Src) (g : SG) (b : SS) : Nat → Nat → Env → Sto → Res SO
  | 0, _, _, _ => .bad
  | n + 1, i, ρ, μ => match s.at μ with
    | none => .bad
    | some ds => match ds[i]? with
      | none => .ok (.nx ρ) μ
      | some d => (g d F ρ μ).bind fun ρ1 μ1 => match b F ρ1 μ1 with
        | .ok (.nx ρ2) μ2 => forL F s g b n (i + 1) ρ2 μ2
        | .ok (.ct ρ2) μ2 => forL F s g b n (i + 1) ρ2 μ2
        | .ok (.bk ρ2) μ2 => .ok (.nx ρ2) μ2
        | r => r
def sFor (it : SI) (g : SG) (b : SS) : SS := fun F ρ μ => (it F ρ μ).bind fun s μ1 => forL F s g b (s.len μ1 + 1) 0 ρ μ1
section
variable {X : Cx} {XC : Nat → Addr} {F : Fns} {W : WX} {pos : Pos}
theorem s_for {tg iter : Expr} {body : List Stmt} {fi : SI} {g : SG} {fb : SS} (hp : PassesOwn (model X.prog X.w) X.A X.env X.xe) (hc : X.calm = true) (hi : PI X tg iter (rdI X.K XC F W fi)) (hg : PG X tg (rdG X.K XC F W g)) (hb : PSs X body (rdS X.K XC F W fb))
    (hs : ∀ x, foldedSetIterable iter X.env x = pure x := by intro _; rfl) : PS X (.For tg iter body [] pos) (rdS X.K XC F W (sFor fi g fb)) :=
  PSimp (ps_for hp hc hi hg hb hs) fun D σ H ⟨Acc, ι, ρ, μ, S, E, h⟩ => by
    refine ⟨Acc, ι, ρ, μ, S, E, ?_⟩
    unfold sFor at h
    cases e0 : fi F ρ μ with
    | bad => rw [e0] at h; exact h
    | exc x μ1 => rw [e0] at h; exact fun c d H' t e => h ι H' c d σ t e
    | ok s μ1 =>
      rw [e0] at h
      simp only [Res.bind] at h
      intro J H1 t1 jr
      refine ⟨fun i m σ H => ∃ (Acc' : Addr → Prop) (ι' : List Addr) (ρ' : Env) (μ' : Sto), Sim X.K Acc' μ' ι' H ∧ EnvR X.K (Liv Acc' μ' ι') ι' H ρ' σ ∧ Mv (Liv Acc μ1 ι) H1 (Liv Acc' μ' ι') H ∧ (∀ (k : Nat) a, ι[k]? = some a → ι'[k]? = some a) ∧
        wpS X.K XC W Acc' ι' μ' H (forL F s g fb m i ρ' μ') D, ⟨s.len μ1 + 1, Acc, ι, ρ, μ1, t1.sim, E.mv t1 S, fun a o e n => ⟨e, n⟩, fun k a e => e, wpS.shift t1 h⟩, ?_⟩
      rintro i m σ' H' ⟨Acc', ι', ρ', μ', S', E', m', pr, h'⟩
      cases m with
      | zero => exact h'.elim
      | succ m =>
        unfold forL at h'
        cases ea : s.at μ' with
        | none => rw [ea] at h'; exact h'.elim
        | some ds =>
          rw [ea] at h'
          simp only at h'
          have j := jr Acc' ι' μ' H' S' m' pr ds ea i
          cases ei : ds[i]? with
          | none =>
            rw [ei] at h'
            exact .inl ⟨j.2 (List.getElem?_eq_none_iff.mp ei), h' ι' H' σ' (.refl S') E'⟩
          | some d =>
            rw [ei] at h'
            simp only at h'
            obtain ⟨jg, jy⟩ := j.1 d ei
            refine .inr ⟨jg, fun σ H => ∃ (Acc' : Addr → Prop) (ι' : List Addr) (ρ' : Env) (μ' : Sto), Sim X.K Acc' μ' ι' H ∧ EnvR X.K (Liv Acc' μ' ι') ι' H ρ' σ ∧ Mv (Liv Acc μ1 ι) H1 (Liv Acc' μ' ι') H ∧ (∀ (k : Nat) a, ι[k]? = some a → ι'[k]? = some a) ∧
              wpS X.K XC W Acc' ι' μ' H (forL F s g fb m (i + 1) ρ' μ') D, fun σ2 H2 q => ⟨m, Nat.lt_succ_self m, q⟩, fun x Hy hy => ?_⟩
            obtain ⟨ty, ry⟩ := jy x Hy hy
            refine ⟨Acc', ι', ρ', μ', d, ty.sim, E'.mv ty S', ry, ?_⟩
            replace h' := wpS.shift ty h'
            have my := m'.trans (ty.mv S')
            cases eg : g d F ρ' μ' with
            | bad => rw [eg] at h'; exact h'
            | exc x2 μ2 => rw [eg] at h'; exact fun c d σ2 H2 t2 e2 => h' ι' H2 c d σ2 t2 e2
            | ok ρ2 μ2 =>
              rw [eg] at h'
              simp only [Res.bind] at h'
              intro σ2 H2 t2 E2
              refine ⟨Acc', ι', ρ2, μ2, t2.sim, E2, ?_⟩
              replace h' := wpS.shift t2 h'
              have my2 := my.trans (t2.mv ty.sim)
              cases eb : fb F ρ2 μ2 with
              | bad => rw [eb] at h'; exact h'
              | exc x3 μ3 => rw [eb] at h'; exact h'
              | ok o μ3 =>
                rw [eb] at h'
                cases o with
                | rt v => exact h'
                | bk ρ3 => exact fun ι3 H3 σ3 t3 E3 => h' ι3 H3 σ3 t3 E3
                | nx ρ3 => exact fun ι3 H3 σ3 t3 E3 => ⟨Acc', ι3, ρ3, μ3, t3.sim, E3, my2.trans (t3.mv t2.sim), fun k a e => t3.get (pr k a e), wpS.shift t3 h'⟩
                | ct ρ3 => exact fun ι3 H3 σ3 t3 E3 => ⟨Acc', ι3, ρ3, μ3, t3.sim, E3, my2.trans (t3.mv t2.sim), fun k a e => t3.get (pr k a e), wpS.shift t3 h'⟩
end

/-! ### methods of a list that change it -/
abbrev Act := List D → List D → Option (D × List D)
def MtSpec (K : PySem.W.Frag) (r : V → List V → Hp → VK → Prop) (act : Act) : Prop :=
  ∀ (L : Addr → Prop) (H : Hp) (a : Addr) (ds args : List D) (xs vs : List V) (rd : D) (ds' : List D), H a = some (.lst xs) → Reps K L H ds xs → Reps K L H args vs → act ds args = some (rd, ds') →
    ∃ rv xs', Reps K L H ds' xs' ∧ Rep K L H rd rv ∧ ∀ Q : VK, Q rv (upd H a (.lst xs')) → r (.ref a) vs H Q
def eCM (act : Act) (o : SE) (a : SA) : SE := fun F ρ μ => (o F ρ μ).bind fun v μ1 => match v with
  | .cel k => match μ1[k]? with
    | some c0 => match c0.val with
      | .lst _ => (a F ρ μ1).bind fun vs μ2 => match frzs vs μ2 with
        | some (args, μ3) => match μ3[k]? with
          | some c => match c.live, c.val with
            | true, .lst ds => match act ds args with
              | some (r, ds') => .ok (.dat r) (μ3.set k ⟨true, .lst ds'⟩)
              | none => .bad
            | _, _ => .bad
          | none => .bad
        | none => .bad
      | _ => .bad
    | none => .bad
  | _ => .bad
def aAppend : Act := fun ds args => match args with
  | [d] => if ds.length < LIM then some (.non, ds ++ [d]) else none
  | _ => none
def aPop : Act := fun ds args => match args with
  | [] => match ds[ds.length - 1]? with
    | some d => some (d, ds.dropLast)
    | none => none
  | _ => none
def aPopAt : Act := fun ds args => match args with
  | [.int i] => match ixN ds.length i with
    | some j => match ds[j]? with
      | some d => if ds.length ≤ LIM then some (d, ds.eraseIdx j) else none
      | none => none
    | none => none
  | _ => none
def aInsert : Act := fun ds args => match args with
  | [.int i, d] => if 0 ≤ i ∧ i < LIM ∧ ds.length < LIM then some (.non, ds.take i.toNat ++ [d] ++ ds.drop i.toNat) else none
  | _ => none
def aExtend : Act := fun ds args => match args with
  | [.lst es] => if ds.length + es.length ≤ LIM then some (.non, ds ++ es) else none
  | [.tup es] => if ds.length + es.length ≤ LIM then some (.non, ds ++ es) else none
  | _ => none
section
open PySem.Spec
theorem extend_tuple (l : Addr) (items : Array Value) (n : Nat) (b : Addr) (dd : Option Addr) (sl : Array (Option Value)) (items2 : Array Value) (n2 : Nat) (hs0 : ¬(!items.isEmpty && Builtin.List.listTooLong (items.size + items2.size)) = true) (hs1 : items.size ≤ sizeLine) (hs2 : items.size + items2.size ≤ sizeLine + 1) :
    Meets (Builtin.«list.extend» ⟨[.ref l, .ref b], []⟩) (fun _ R s => s.heap.get? l = some { cls := .type "list", dict := none, data := .seq items n, slots := #[] } ∧ s.heap.get? b = some { cls := .type "tuple", dict := dd, data := .seq items2 n2, slots := sl } ∧ R (.ok (.ret Value.none)) { s with heap := s.heap.update l (Obj.mapSeq fun x => x ++ items2), toks := s.toks }) :=
  .of_wp fun prog w A R s h => by
    obtain ⟨hp, g, d, tk, os⟩ := s; obtain ⟨hl, hb, h⟩ := h; have f1 := AutoSeq1.idx_int; have f2 := AutoSeq1.sub_tuple_tuple; have f3 := AutoSeq1.sub_list_list; have f4 := AutoSeq1.sub_tuple_list; have f5 := AutoSeq1.sub_list_tuple;
    have hz' : (items ++ items2).size ≤ sizeLine + 1 := by rw [Array.size_append]; exact hs2
    wp_walk using (wpAny_updateSeq hl rfl (hz := hs1) (_hz' := hz')), AutoSeq1.wpAny_loadPart' hl, AutoSeq1.wpAny_loadPart' hb; exact ⟨_, rfl, h⟩
/-- x.extend of a list, of a tuple -/
def rExtB (K : PySem.W.Frag) : V → List V → Hp → VK → Prop := fun x vs H Q => rExtend x vs H Q ∨ ∃ l b xs zs, x = .ref l ∧ vs = [.ref b] ∧ H l = some (.lst xs) ∧ SqT K H b zs ∧ xs.length + zs.length ≤ sizeLine ∧ Q .non (upd H l (.lst (xs ++ zs)))
theorem mt_extB {X : Cx} : MtM X "list.extend" (rExtB X.K) := by
  intro pins s σ H x vs v us Q I rx rv h
  rcases h with h | ⟨l, b, xs, zs, rfl, rfl, hH, hB, hz, q⟩
  · exact mt_extend pins s σ H x vs v us Q I rx rv h
  · cases rx
    obtain ⟨u, rfl, ru⟩ := rv.one
    cases ru
    obtain ⟨z, its, n, r, hl, e⟩ := I.lstM hH
    obtain ⟨its2, r2, ⟨o, ho, hc, n2, hd⟩, z2⟩ := I.tuple hB
    obtain ⟨cls, dd, data, sl⟩ := o
    simp only at hc hd
    subst hc
    subst hd
    have l2 := r2.length
    have l1 := r.length
    have hsz : its.toArray.size + its2.toArray.size ≤ sizeLine := by rw [List.size_toArray, List.size_toArray]; omega
    have hlong : ¬ (!its.toArray.isEmpty && Builtin.List.listTooLong (its.toArray.size + its2.toArray.size)) = true := by
      rw [notLongL hsz, Bool.and_false]
      exact Bool.false_ne_true
    refine call_meets PySem.F.slot_list_extend ⟨_, e, rfl⟩ PySem.F.entry_list_extend (PySem.F.args_list_extend_2 _ _)
      (extend_tuple l its.toArray n b dd sl its2.toArray n2 hlong (by rw [List.size_toArray]; omega) (by omega)) ⟨e, ho, ?_⟩
    refine ⟨.non, _, I.lset (its' := its ++ its2) hH e (by simp) (r.append r2) ?_, rfl, q⟩
    rw [List.length_append]
    omega
end
section
variable {K : PySem.W.Frag}
theorem Reps.dropLast {L : Addr → Prop} {H : Hp} {ds : List D} {vs : List V} (h : Reps K L H ds vs) : Reps K L H ds.dropLast vs.dropLast := by
  rw [List.dropLast_eq_take, List.dropLast_eq_take, h.len]
  exact Reps.take _ h
theorem Reps.eraseIdx {L : Addr → Prop} {H : Hp} {ds : List D} {vs : List V} (i : Nat) (h : Reps K L H ds vs) : Reps K L H (ds.eraseIdx i) (vs.eraseIdx i) := by
  rw [List.eraseIdx_eq_take_drop_succ, List.eraseIdx_eq_take_drop_succ]
  exact (Reps.take _ h).app (Reps.drop _ h)
theorem Reps.one {L : Addr → Prop} {H : Hp} {d : D} {vs : List V} (h : Reps K L H [d] vs) : ∃ v, vs = [v] ∧ Rep K L H d v := by
  obtain ⟨v, r, e, h1, h2⟩ := h.inv
  exact ⟨v, by rw [e, h2.invN], h1⟩
theorem ms_append : MtSpec K rAppend aAppend := by
  intro L H a ds args xs vs rd ds' ha r ra h
  cases args with
  | nil => cases h
  | cons d t =>
    cases t with
    | cons _ _ => cases h
    | nil =>
      simp only [aAppend] at h
      split at h
      case isFalse => cases h
      case isTrue hz =>
        cases h
        obtain ⟨v, rfl, rv⟩ := ra.one
        refine ⟨.non, xs ++ [v], r.app (Reps.cons rv Reps.nil), rep_non, fun Q q => ⟨a, xs, v, rfl, rfl, ha, ?_, q⟩⟩
        rw [r.len]
        have h2 : LIM < sizeLine := by decide
        omega
theorem ms_pop : MtSpec K rPop aPop := by
  intro L H a ds args xs vs rd ds' ha r ra h
  cases args with
  | cons d t => cases h
  | nil =>
    simp only [aPop] at h
    cases hd : ds[ds.length - 1]? with
    | none => rw [hd] at h; cases h
    | some d =>
      rw [hd] at h
      cases h
      obtain ⟨v, hv, rv⟩ := r.get hd
      refine ⟨v, xs.dropLast, r.dropLast, rv, fun Q q => ⟨a, xs, v, rfl, ra.invN, ha, ?_, q⟩⟩
      rw [r.len]; exact hv
theorem ms_popAt : MtSpec K rPopAt aPopAt := by
  intro L H a ds args xs vs rd ds' ha r ra h
  cases args with
  | nil => cases h
  | cons d t =>
    cases t with
    | cons _ _ => cases d <;> cases h
    | nil =>
      cases d <;> try (cases h; done)
      rename_i i
      simp only [aPopAt] at h
      cases hi : ixN ds.length i with
      | none => rw [hi] at h; cases h
      | some j =>
        rw [hi] at h
        simp only at h
        cases hd : ds[j]? with
        | none => rw [hd] at h; cases h
        | some d =>
          rw [hd] at h
          simp only at h
          split at h
          case isFalse => cases h
          case isTrue hz =>
            cases h
            obtain ⟨v, hv, rv⟩ := r.get hd
            obtain ⟨w, rfl, rw'⟩ := ra.one
            have ew : w = .int i := by simpa only [Rep] using rw'
            subst ew
            obtain ⟨h1, h2, h3, h4⟩ := ixN_seq hi
            have hL : (LIM : Int) < 2 ^ 63 := by decide
            have hz2 : (ds.length : Int) ≤ LIM := by exact_mod_cast hz
            refine ⟨v, xs.eraseIdx j, r.eraseIdx j, rv, fun Q q => ⟨a, xs, i, j, v, rfl, rfl, ha, by omega, by omega, by rw [r.len]; exact h1, hv, q⟩⟩
theorem ms_insert : MtSpec K (fun x vs H Q => ∃ (l : Addr) (xs : List V) (i : Int) (y : V), x = .ref l ∧ vs = [.int i, y] ∧ H l = some (.lst xs) ∧ xs.length < sizeLine ∧ 0 ≤ i ∧ i < 2 ^ 63 ∧
    Q .non (upd H l (.lst (xs.take i.toNat ++ [y] ++ xs.drop i.toNat)))) aInsert := by
  intro L H a ds args xs vs rd ds' ha r ra h
  cases args with
  | nil => cases h
  | cons d0 t =>
    cases d0 <;> try (cases h; done)
    rename_i i
    cases t with
    | nil => cases h
    | cons d t =>
      cases t with
      | cons _ _ => cases h
      | nil =>
        simp only [aInsert] at h
        split at h
        case isFalse => cases h
        case isTrue hz =>
          cases h
          obtain ⟨w, rs, rfl, rw', r2⟩ := ra.inv
          obtain ⟨v, rfl, rv⟩ := r2.one
          have ew : w = .int i := by simpa only [Rep] using rw'
          subst ew
          have hL : (LIM : Int) < 2 ^ 63 := by decide
          have hL2 : LIM < sizeLine := by decide
          refine ⟨.non, _, ((Reps.take i.toNat r).app (Reps.cons rv Reps.nil)).app (Reps.drop i.toNat r), rep_non, fun Q q => ⟨a, xs, i, v, rfl, rfl, ha, ?_, hz.1, ?_, q⟩⟩
          · rw [r.len]; have := hz.2.2; omega
          · have := hz.2.1; omega
theorem ms_extend : MtSpec K (rExtB K) aExtend := by
  intro L H a ds args xs vs rd ds' ha r ra h
  cases args with
  | nil => cases h
  | cons d0 t =>
    cases t with
    | cons _ _ => cases d0 <;> cases h
    | nil =>
      cases d0 <;> try (cases h; done)
      · rename_i es
        simp only [aExtend] at h
        split at h
        case isFalse => cases h
        case isTrue hz =>
          cases h
          obtain ⟨v, rfl, rv⟩ := ra.one
          simp only [Rep] at rv
          obtain ⟨b, zs, rfl, hb, rz⟩ := rv
          refine ⟨.non, xs ++ zs, r.app rz, rep_non, fun Q q => .inr ⟨a, b, xs, zs, rfl, rfl, ha, hb.sq, ?_, q⟩⟩
          rw [r.len, rz.len]
          exact lim_ok hz
      · rename_i es
        simp only [aExtend] at h
        split at h
        case isFalse => cases h
        case isTrue hz =>
          cases h
          obtain ⟨v, rfl, rv⟩ := ra.one
          simp only [Rep] at rv
          obtain ⟨b, zs, rfl, hb, nb, rz⟩ := rv
          refine ⟨.non, xs ++ zs, r.app rz, rep_non, fun Q q => .inl ⟨a, b, xs, zs, rfl, rfl, ha, hb, ?_, q⟩⟩
          rw [r.len, rz.len]
          exact lim_ok hz
end
section
variable {K : PySem.W.Frag} {XC : Nat → Addr} {F : Fns} {W : WX} {H : Hp} {σ : L2.St} {fo : SE} {fa : SA} {act : Act} {r : V → List V → Hp → VK → Prop} {Q : VK}
theorem cm_read (ms : MtSpec K r act) (h : rdE K XC F W (eCM act fo fa) σ H Q) : tBM K "list" r (rdE K XC F W fo) (rdA K XC F W fa) σ H Q := by
  obtain ⟨Acc, ι, ρ, μ, S, E, h⟩ := h
  refine rd.bind (Stp.refl S) E h fun a μ1 x H1 e1 t1 r1 h1 => ?_
  cases a with
  | dat _ => exact h1.elim
  | new _ => exact h1.elim
  | cel k =>
    obtain ⟨ad, ek, ex⟩ := r1.1
    subst ex
    simp only at h1
    cases hc0 : μ1[k]? with
    | none => rw [hc0] at h1; exact h1.elim
    | some c0 =>
      rw [hc0] at h1
      simp only at h1
      cases hv0 : c0.val with
      | dic _ _ => rw [hv0] at h1; exact h1.elim
      | dct _ _ => rw [hv0] at h1; exact h1.elim
      | lst ds0 =>
        rw [hv0] at h1
        simp only at h1
        obtain ⟨b0, e0, rc0⟩ := t1.sim.cell k c0 hc0
        rw [ek] at e0; cases e0
        rw [hv0] at rc0
        obtain ⟨xs0, hx0, _⟩ := rc0
        refine ⟨.inl ⟨rfl, xs0, SqL.of hx0⟩, ?_⟩
        refine rd.bind t1 (E.mv t1 S) h1 fun vs μ2 ys H2 e2 t2 r2 h2 => ?_
        have t12 := t1.trans t2
        cases hf : frzs vs μ2 with
        | none => rw [hf] at h2; exact h2.elim
        | some p =>
          obtain ⟨args, μ3⟩ := p
          rw [hf] at h2
          simp only at h2
          obtain ⟨t3, r3⟩ := frzs_ok t2.sim (fun a h => t1.sim.trk h) (fun a h => (t1.sim.acc a h).2) r2 hf
          cases hc : μ3[k]? with
          | none => rw [hc] at h2; exact h2.elim
          | some c =>
            rw [hc] at h2
            simp only at h2
            cases hl : c.live with
            | false => rw [hl] at h2; exact h2.elim
            | true =>
              cases hv : c.val with
              | dic _ _ => rw [hl, hv] at h2; exact h2.elim
              | dct _ _ => rw [hl, hv] at h2; exact h2.elim
              | lst ds =>
                rw [hl, hv] at h2
                simp only at h2
                cases hact : act ds args with
                | none => rw [hact] at h2; exact h2.elim
                | some p =>
                  obtain ⟨rd, ds'⟩ := p
                  rw [hact] at h2
                  simp only at h2
                  obtain ⟨b, eb, rc⟩ := t3.sim.cell k c hc
                  rw [ek] at eb; cases eb
                  rw [hv] at rc
                  obtain ⟨xs, hx, rx⟩ := rc
                  obtain ⟨rv, xs', q1, q2, q3⟩ := ms _ _ ad ds args xs ys rd ds' hx rx r3 hact
                  have tp := t3.sim.put (c' := .lst ds') hc hl ek (o := .lst xs') fun H' m e => ⟨xs', e, Reps.mv m _ _ q1⟩
                  refine q3 Q (h2 rv _ (t12.trans (t3.trans tp)) ⟨?_, trivial⟩)
                  exact Rep.mv (tp.mv t3.sim) _ _ q2
theorem cm_read0 (ms : MtSpec K r act) (h : rdE K XC F W (eCM act fo (evs [])) σ H Q) : tBM0 K "list" r (rdE K XC F W fo) σ H Q := by
  obtain ⟨Acc, ι, ρ, μ, S, E, h⟩ := h
  refine rd.bind (Stp.refl S) E h fun a μ1 x H1 e1 t1 r1 h1 => ?_
  cases a with
  | dat _ => exact h1.elim
  | new _ => exact h1.elim
  | cel k =>
    obtain ⟨ad, ek, ex⟩ := r1.1
    subst ex
    simp only at h1
    cases hc0 : μ1[k]? with
    | none => rw [hc0] at h1; exact h1.elim
    | some c0 =>
      rw [hc0] at h1
      simp only at h1
      cases hv0 : c0.val with
      | dic _ _ => rw [hv0] at h1; exact h1.elim
      | dct _ _ => rw [hv0] at h1; exact h1.elim
      | lst ds0 =>
        obtain ⟨b0, e0, rc0⟩ := t1.sim.cell k c0 hc0
        rw [ek] at e0; cases e0
        rw [hv0] at rc0
        obtain ⟨xs0, hx0, rx0⟩ := rc0
        refine ⟨.inl ⟨rfl, xs0, SqL.of hx0⟩, ?_⟩
        simp only [hv0, evs, Res.bind, frzs, hc0] at h1
        cases hl : c0.live with
        | false => rw [hl] at h1; exact h1.elim
        | true =>
          rw [hl] at h1
          simp only at h1
          cases hact : act ds0 [] with
          | none => rw [hact] at h1; exact h1.elim
          | some p =>
            obtain ⟨rd, ds'⟩ := p
            rw [hact] at h1
            simp only at h1
            obtain ⟨rv, xs', q1, q2, q3⟩ := ms _ _ ad ds0 [] xs0 [] rd ds' hx0 rx0 Reps.nil hact
            have tp := t1.sim.put (c' := .lst ds') hc0 hl ek (o := .lst xs') fun H' m e => ⟨xs', e, Reps.mv m _ _ q1⟩
            exact q3 Q (h1 rv _ (t1.trans tp) ⟨Rep.mv (tp.mv t1.sim) _ _ q2, trivial⟩)
end
end VM
/-! Methods: the rules. -/
namespace VM
open PySem L2 PyProof.Rows
section
variable {X : Cx} {XC : Nat → Addr} {F : Fns} {W : WX} {o e f : Expr} {fo fe ff : SE} {apos cpos pos : Pos}
theorem c_append (ho : PE X o (rdE X.K XC F W fo)) (he : PE X e (rdE X.K XC F W fe))
    (hbase : attributeBase o "append" X.env (eval o X.env) = eval o X.env := by rfl)
    (hfew : ((backTo cpos (starEach [e] X.env)).all (fun x => !x.1) && (backToKw cpos (keywordEach [] X.env)).all (fun x => x.1.isSome)
      && decide ([e].length + ([] : List Keyword).length + (if ([] : List Keyword).isEmpty then 0 else 1) < 30)) = true := by rfl)
    (hline : (apos.endLine == cpos.line) = true := by rfl) (hs : starEach [e] X.env = (false, eval e X.env) :: starEach [] X.env := by rfl) (hplain : (backTo cpos (starEach [] X.env)).any (·.1) = false := by rfl) :
    PE X (.Call (.Attribute o "append" apos) [e] [] cpos) (rdE X.K XC F W (eCM aAppend fo (evs [fe]))) :=
  PEimp (pe_bm PySem.F.plainAttrs_list PySem.F.slot_list_append PySem.F.type_list_append mt_append ho (ca_cons he ca_nil hs) hbase hfew hline hs hplain) fun σ H Q h => cm_read ms_append h
theorem c_extend (ho : PE X o (rdE X.K XC F W fo)) (he : PE X e (rdE X.K XC F W fe))
    (hbase : attributeBase o "extend" X.env (eval o X.env) = eval o X.env := by rfl)
    (hfew : ((backTo cpos (starEach [e] X.env)).all (fun x => !x.1) && (backToKw cpos (keywordEach [] X.env)).all (fun x => x.1.isSome)
      && decide ([e].length + ([] : List Keyword).length + (if ([] : List Keyword).isEmpty then 0 else 1) < 30)) = true := by rfl)
    (hline : (apos.endLine == cpos.line) = true := by rfl) (hs : starEach [e] X.env = (false, eval e X.env) :: starEach [] X.env := by rfl) (hplain : (backTo cpos (starEach [] X.env)).any (·.1) = false := by rfl) :
    PE X (.Call (.Attribute o "extend" apos) [e] [] cpos) (rdE X.K XC F W (eCM aExtend fo (evs [fe]))) :=
  PEimp (pe_bm PySem.F.plainAttrs_list PySem.F.slot_list_extend PySem.F.type_list_extend mt_extB ho (ca_cons he ca_nil hs) hbase hfew hline hs hplain) fun σ H Q h => cm_read ms_extend h
theorem c_popAt (ho : PE X o (rdE X.K XC F W fo)) (he : PE X e (rdE X.K XC F W fe))
    (hbase : attributeBase o "pop" X.env (eval o X.env) = eval o X.env := by rfl)
    (hfew : ((backTo cpos (starEach [e] X.env)).all (fun x => !x.1) && (backToKw cpos (keywordEach [] X.env)).all (fun x => x.1.isSome)
      && decide ([e].length + ([] : List Keyword).length + (if ([] : List Keyword).isEmpty then 0 else 1) < 30)) = true := by rfl)
    (hline : (apos.endLine == cpos.line) = true := by rfl) (hs : starEach [e] X.env = (false, eval e X.env) :: starEach [] X.env := by rfl) (hplain : (backTo cpos (starEach [] X.env)).any (·.1) = false := by rfl) :
    PE X (.Call (.Attribute o "pop" apos) [e] [] cpos) (rdE X.K XC F W (eCM aPopAt fo (evs [fe]))) :=
  PEimp (pe_bm PySem.F.plainAttrs_list PySem.F.slot_list_pop PySem.F.type_list_pop mt_popAt ho (ca_cons he ca_nil hs) hbase hfew hline hs hplain) fun σ H Q h => cm_read ms_popAt h
theorem c_pop (ho : PE X o (rdE X.K XC F W fo)) (hbase : attributeBase o "pop" X.env (eval o X.env) = eval o X.env := by rfl) (hline : (apos.endLine == cpos.line) = true := by rfl) :
    PE X (.Call (.Attribute o "pop" apos) [] [] cpos) (rdE X.K XC F W (eCM aPop fo (evs []))) :=
  PEimp (pe_bm0 PySem.F.plainAttrs_list PySem.F.slot_list_pop PySem.F.type_list_pop mt_pop ho hbase hline) fun σ H Q h => cm_read0 ms_pop h
theorem c_insert (ho : PE X o (rdE X.K XC F W fo)) (he : PE X e (rdE X.K XC F W fe)) (hf : PE X f (rdE X.K XC F W ff))
    (hbase : attributeBase o "insert" X.env (eval o X.env) = eval o X.env := by rfl)
    (hfew : ((backTo cpos (starEach [e, f] X.env)).all (fun x => !x.1) && (backToKw cpos (keywordEach [] X.env)).all (fun x => x.1.isSome)
      && decide ([e, f].length + ([] : List Keyword).length + (if ([] : List Keyword).isEmpty then 0 else 1) < 30)) = true := by rfl)
    (hline : (apos.endLine == cpos.line) = true := by rfl) (hs : starEach [e, f] X.env = (false, eval e X.env) :: starEach [f] X.env := by rfl) (hs2 : starEach [f] X.env = (false, eval f X.env) :: starEach [] X.env := by rfl) (hplain : (backTo cpos (starEach [f] X.env)).any (·.1) = false := by rfl) :
    PE X (.Call (.Attribute o "insert" apos) [e, f] [] cpos) (rdE X.K XC F W (eCM aInsert fo (evs [fe, ff]))) :=
  PEimp (pe_bm PySem.F.plainAttrs_list PySem.F.slot_list_insert PySem.F.type_list_insert mt_insert ho (ca_cons he (ca_cons hf ca_nil hs2) hs) hbase hfew hline hs hplain) fun σ H Q h => cm_read ms_insert h
end
end VM
/-! The promises of functions once more, where no repr is under way ahead (guards). -/
namespace VM
open PySem PySem.Spec L2 PyProof.Rows

structure FnG (P : Program) (w : World) (K : PySem.W.Frag) (mg : Str → Option Value) (base : Heap) (CX : CXT) (k : Nat) (f : Addr) (fd : FuncData) (ps : List Str) (sp : Sp) : Prop where
  lg : ∀ vs H Q E, sp vs H Q E → vs.length = ps.length
  go : ∀ (A : Around) (outer : List PySem.Env) (s : Shared) (H : Hp) (args : Args) (us : List Value) (vs : List V) (Q : VK) (E : XK), Room k A → A.guards = some [] → Env0 P w K mg base A outer s H → BindsTo s fd args (ps.zip us) → Vals vs us → sp vs H Q E → codeAny (model P w) A (.call (.ref f) args) (CR CX outer P w H s Q E) s

section
variable {X : Cx} {CX : CXT} {k : Nat} {f C : Addr} {fd : FuncData} {ps ks : List Str} {sp : Sp} {dvs : List V} {ds : List Value} {E : XK} {x m : Str} {p pos apos : Pos} {e o : Expr} {es : List Expr} {kws : List Keyword} {ta : TE} {t tk : TA} {g : List Value → List Value → List Value} {gV : List V → List V → List V}
theorem cr_ep {pins : List (Addr × Obj)} {σ : L2.St} {H : Hp} {s : Shared} {Q : VK} (hx : Passes CX X E) (I : Inv X pins σ H s) : ∀ (r : Result) (s' : Shared), CR CX X.stack X.prog X.w H s Q E r s' → match r with
    | .ok (.ret u) => EP X pins σ Q u s'
    | .ok _ => False
    | .error e => X.xe e s' := fun r s' hq => by
  cases r with
  | error e => exact hx pins σ H s e s' I hq
  | ok fl => cases fl <;> first | exact I.after hq | exact hq
theorem run_g {pins : List (Addr × Obj)} {σ : L2.St} {H : Hp} {s : Shared} {Q : VK} {us : List Value} {kw : List (Str × Value)} {ws : List Value} {vs : List V} (F : FnG X.prog X.w X.K X.mg X.base CX k f fd ps sp) (hr : Room k X.A) (hG : X.A.guards = some []) (hx : Passes CX X E)
    (I : Inv X pins σ H s) (hb : BindsTo s fd ⟨us, kw⟩ (ps.zip ws)) (r : Vals vs ws) (h : sp vs H Q E) : wpAny (model X.prog X.w) X.A (call (.ref f) us kw) (EP X pins σ Q) X.xe s :=
  wpAny_call (codeAny_mono (F.go X.A X.stack s H ⟨us, kw⟩ ws vs Q E hr hG I.env0 hb r h) fun r s' hq => by
    have z := cr_ep hx I r s' hq
    cases r with
    | error e => exact z
    | ok fl => cases fl <;> exact z)
theorem run_gp {pins : List (Addr × Obj)} {σ : L2.St} {H : Hp} {s : Shared} {Q : VK} {us : List Value} {vs : List V} (F : FnG X.prog X.w X.K X.mg X.base CX k f fd ps sp) (hr : Room k X.A) (hG : X.A.guards = some []) (hb : Binds X.K fd ps ds) (hd : Vals dvs ds) (hx : Passes CX X E)
    (I : Inv X pins σ H s) (r : Vals vs us) (h : sp (vs ++ dvs) H Q E) : wpAny (model X.prog X.w) X.A (call (.ref f) us) (EP X pins σ Q) X.xe s :=
  run_g F hr hG hx I (hb s us I.kIn (by rw [← (r.append hd).length]; exact F.lg _ _ _ _ h)) (r.append hd) h
theorem pe_g (F : FnG X.prog X.w X.K X.mg X.base CX k f fd ps sp) (hr : Room k X.A) (hG : X.A.guards = some []) (hg : Gl X x) (hm : X.mg x = some (.ref f)) (hk : PySem.W.keepIn X.K (.ref f) = true) (hb : Binds X.K fd ps ds) (hd : Vals dvs ds) (hx : Passes CX X E)
    (ha : PA X (e :: es) t) (hdb : (x == ("__debug__" : Str)) = false) (he : starEach (e :: es) X.env = (false, eval e X.env) :: starEach es X.env) (hpl : (backTo pos (starEach es X.env)).any (·.1) = false) :
    PE X (.Call (.Name x p) (e :: es) [] pos) (tCall sp dvs E t) := ⟨fun pins s σ H Q I h => wpAny_Call_Name_kw (ld_glob I hg hm (PySem.W.callWith_K (h₀ := X.base) I.ok.mod.kin hk
      (thn (ha.run pos pins s σ H _ I h) fun us s1 ⟨vs, H1, I1, r, q⟩ => ⟨I1.kIn, run_gp F hr hG hb hd hx I1 r q⟩) he hpl) hdb)⟩
theorem pe_g0 (F : FnG X.prog X.w X.K X.mg X.base CX k f fd ps sp) (hr : Room k X.A) (hG : X.A.guards = some []) (hg : Gl X x) (hm : X.mg x = some (.ref f)) (hk : PySem.W.keepIn X.K (.ref f) = true) (hb : Binds X.K fd ps ds) (hd : Vals dvs ds) (hx : Passes CX X E)
    (hdb : (x == ("__debug__" : Str)) = false) : PE X (.Call (.Name x p) [] [] pos) (tCall sp dvs E tNil) :=
  ⟨fun pins s σ H Q I h => wpAny_Call_Name_kw (ld_glob I hg hm (PySem.W.callWith_K0 I.kIn hk (run_gp (us := []) F hr hG hb hd hx I .nil h)) hdb)⟩
theorem pe_gK (F : FnG X.prog X.w X.K X.mg X.base CX k f fd ps sp) (hr : Room k X.A) (hG : X.A.guards = some []) (hg : Gl X x) (hm : X.mg x = some (.ref f)) (hk : PySem.W.keepIn X.K (.ref f) = true) (hb : KBinds X.K fd ps ks g gV) (hx : Passes CX X E)
    (ha : PA X (e :: es) t) (hkw : PK X kws tk) (hall : (backToKw pos (keywordEach kws X.env)).all (·.1.isSome) = true) (hks : (backToKw pos (keywordEach kws X.env)).filterMap (·.1) = ks)
    (hdb : (x == ("__debug__" : Str)) = false) (he : starEach (e :: es) X.env = (false, eval e X.env) :: starEach es X.env)
    (hpl : ((backTo pos (starEach (e :: es) X.env)).any (·.1) || (backToKw pos (keywordEach kws X.env)).any (·.1.isNone)) = false) : PE X (.Call (.Name x p) (e :: es) kws pos) (tCallK sp gV E t tk) :=
  ⟨fun pins s σ H Q I h => wpAny_Call_Name_kw (ld_glob I hg hm (PySem.W.callWith_KW (h₀ := X.base) I.ok.mod.kin hk hall (thn (ha.run pos pins s σ H _ I h) fun us s1 ⟨vs, H1, I1, r, q⟩ =>
    thn (hkw.run pos pins s1 σ H1 _ I1 q) fun ws s2 ⟨zs, H2, I2, rz, q2⟩ => ⟨I2.kIn, by
      rw [hks]
      exact run_g F hr hG hx I2 (hb.to s2 us ws I2.kIn (by rw [← (hb.rel r rz).length]; exact F.lg _ _ _ _ q2)) (hb.rel r rz) q2⟩) hpl he) hdb)⟩
theorem pe_gKz (F : FnG X.prog X.w X.K X.mg X.base CX k f fd ps sp) (hr : Room k X.A) (hG : X.A.guards = some []) (hg : Gl X x) (hm : X.mg x = some (.ref f)) (hk : PySem.W.keepIn X.K (.ref f) = true) (hb : KBinds X.K fd ps ks g gV) (hx : Passes CX X E)
    (hkw : PK X kws tk) (hall : (backToKw pos (keywordEach kws X.env)).all (·.1.isSome) = true) (hks : (backToKw pos (keywordEach kws X.env)).filterMap (·.1) = ks)
    (hdb : (x == ("__debug__" : Str)) = false) (hpl : ((backTo pos (starEach [] X.env)).any (·.1) || (backToKw pos (keywordEach kws X.env)).any (·.1.isNone)) = false) : PE X (.Call (.Name x p) [] kws pos) (tCallK sp gV E tNil tk) :=
  ⟨fun pins s σ H Q I h => wpAny_Call_Name_kw (ld_glob I hg hm (PySem.W.callWith_KW0 (h₀ := X.base) I.ok.mod.kin hk hall (thn (hkw.run pos pins s σ H _ I h) fun ws s2 ⟨zs, H2, I2, rz, q2⟩ => ⟨I2.kIn, by
      rw [hks]
      exact run_g F hr hG hx I2 (hb.to s2 [] ws I2.kIn (by rw [← (hb.rel .nil rz).length]; exact F.lg _ _ _ _ q2)) (hb.rel .nil rz) q2⟩) hpl) hdb)⟩
end

/-- a def, by its body, with the guards known -/
theorem fnG_of {CX : CXT} {P : Program} {w : World} {K : PySem.W.Frag} {mg : Str → Option Value} {base : Heap} {k : Nat} {x qual : Str} {st : Stmt} {f : Addr} {fd : FuncData} {N ps : List Str} {sp : Sp} (F : Fun K x qual st f fd) (S : FnScope N ps (defScope st))
    (len : ∀ vs H Q E, sp vs H Q E → vs.length = ps.length)
    (hbody : ∀ (cdv : Value) (A : Around) (outer : List PySem.Env) (s : Shared) (H : Hp) (vs : List V) (Q : VK) (E : XK), Room k (A.deeper (envOfC qual (defScope st) s.heap.objs.size f cdv)) → A.guards = some [] → sp vs H Q E →
      ∃ t, PSs (cxOf CX P w K mg base N qual (defScope st) f cdv A outer s H E) (defBody st) t ∧ t { nx := fun _ H' => Q .non H', rt := Q } (L2.start N vs) H) : FnG P w K mg base CX (k + 1) f fd ps sp := by
  obtain ⟨oc, od, kV, doc, pm, an, cdv, ct, osl, rfl, lk, hcd⟩ := F.ex
  refine ⟨len, fun A outer s H args us vs Q E hr hG e0 hb r hsp => ?_⟩
  have hl := len _ _ _ _ hsp
  have inH : K.In s.heap := e0.mod.kin.keeps fun b o e => (e0.bs b o e).1
  have nol : s.heap.NoLimit := e0.mod.nolimit.keeps fun b o e => (e0.bs b o e).1
  refine codeAny_call_function hr.depth (inH _ _ lk) rfl S.co S.gen rfl (PySem.W.codeRec_of inH hcd) (hb _ _ _ _ (wpAny_newFunctionEnv_cells S.kind (fun ⟨n, v⟩ hy => ?_) fun env he s1 x => ?_))
  · exact (S.par n (List.of_mem_zip hy).1).elim .inl fun q => .inr ⟨q, PySem.W.cellsFrom_some _ _ _ (.inl q)⟩
  subst he
  refine ⟨nol.keeps x.toInCall.keep, codeAny_func ?_⟩
  obtain ⟨t, ht, hq⟩ := hbody cdv A outer s H vs Q E (hr.deeper _) hG hsp
  have I := inv_start (CX := CX) (E := E) S hr.hd e0 hl r x
  refine wpAny_mono (ht.run [] s1 (L2.start N vs) H _ I hq) (fun fl s' hs => ?_) fun e s' hs => hs
  cases fl with
  | ret u =>
    obtain ⟨v, σ', H', J, rv, q⟩ := hs
    exact ⟨v, H', J.os, J.bare, J.base, J.hok, rv, q⟩
  | next =>
    obtain ⟨σ', H', J, q⟩ := hs
    exact ⟨.non, H', J.os, J.bare, J.base, J.hok, rfl, q⟩
  | brk =>
    obtain ⟨_, _, _, q⟩ := hs
    exact q.elim
  | cont =>
    obtain ⟨_, _, _, q⟩ := hs
    exact q.elim

/-! ### the law's own head -/
/-- a promise at the place from which the law is called -/
theorem top_call {P : Program} {w : World} {K : PySem.W.Frag} {mg mb : Str → Option Value} {CX : CXT} {k : Nat} {fa a : Addr} {fd : FuncData} {x : Str} {sp : Sp} {s₁ : Shared} {vs : List Value} {ns : List Int}
    (KX : K.In s₁.heap) (hns : s₁.heap.Ns mainGlobals mg) (hb : s₁.heap.Ns builtinsNs mb) (hbb : ∀ x : Str, x ≠ "__name__" → mb x = bootBuiltins x) (hlim : s₁.heap.NoLimit) (hg : s₁.gens = #[])
    (ha : s₁.heap.get? a = some { cls := .type "list", data := .seq vs.toArray }) (hi : IntsAre vs ns) (hl : ns.length ≤ sizeLine) (hr : Room k callerA)
    (F : ∀ base : Heap, K.In base → base.Ns mainGlobals mg → FnG P w K mg base CX k fa fd [x] sp) (hbind : ∀ (s : Shared) (u : Value), BindsTo s fd ⟨[u], []⟩ [(x, u)])
    (hsp : ∀ H : Hp, Only H → SqL K H a (ns.map V.int) → sp [.ref a] H (fun v _ => v = .bl true) fun _ _ _ => False)
    (hCX : ∀ H e s', CX [] H s₁ (fun _ _ _ => False) e s' → False) :
    codeAny (model P w) callerA (.call (.ref fa) ⟨[.ref a], []⟩) (fun r s' => r = .ok (.ret (.bool true)) ∧ OldK s₁.heap s'.heap ∧ s'.os = s₁.os ∧ AllBare s'.gens) s₁ := by
  have lenV := hi.length
  -- the heap without the script
  have main : ∀ H : Hp, Only H → SqL K H a (ns.map V.int) → HOk P w H s₁.heap → (∀ b, H b ≠ none → b = a) → (H a ≠ none → K.lookup a = none) → codeAny (model P w) callerA (.call (.ref fa) ⟨[.ref a], []⟩) (fun r s' => r = .ok (.ret (.bool true)) ∧ OldK s₁.heap s'.heap ∧ s'.os = s₁.os ∧ AllBare s'.gens) s₁ := by
    intro H hO hS hok hA hK
    have isA : ∀ {b : Addr}, H b ≠ none → b = a := fun {b} z => hA b z
    have hid : ∀ {b : Addr} {o : Obj}, s₁.heap.get? b = some o → H b = none → (hidT s₁.heap H).get? b = some o := fun e n => hidT_get e n
    have out : ∀ {b : Addr} {o : Obj} {es : Array DictEntry} {ep : Nat}, s₁.heap.get? b = some o → o.data = .dict es ep → H b = none := by
      intro b o es ep e d
      by_cases q : H b = none
      · exact q
      · have e' := isA q
        subst e'
        rw [ha] at e
        cases e
        exact nomatch (show Data.seq vs.toArray _ = Data.dict es ep from d)
    have ns' : ∀ {b : Addr} {m : Str → Option Value}, s₁.heap.Ns b m → (hidT s₁.heap H).Ns b m := by
      rintro b m ⟨o, es, ep, e, d, r⟩
      exact ⟨o, es, ep, hid e (out e d), d, r⟩
    have inb : K.In (hidT s₁.heap H) := by
      intro b o e
      refine hid (KX b o e) ?_
      by_cases q : H b = none
      · exact q
      · have e' := isA q
        subst e'
        rw [hK q] at e
        cases e
    have hM : Mod K mg (hidT s₁.heap H) := ⟨inb, ns' hns, ⟨mb, ns' hb, hbb⟩, let ⟨mc, h1, h2⟩ := hlim; ⟨mc, ns' h1, h2⟩⟩
    have e0 : Env0 P w K mg (hidT s₁.heap H) callerA [] s₁ H := ⟨rfl, hM, fun b o e => of_hidT e, Nat.le_of_eq (hidT_size _ _), trivial, fun b hb => absurd (show b ∈ ([] : List Addr) from hb) (by simp), hok, .of_eq hg⟩
    refine codeAny_mono ((F _ inb (ns' hns)).go callerA [] s₁ H ⟨[.ref a], []⟩ [.ref a] [.ref a] _ _ hr rfl e0 (hbind s₁ (.ref a)) (.cons rfl .nil) (hsp H hO hS)) fun r s' h => ?_
    cases r with
    | error e => exact (hCX H e s' h).elim
    | ok fl =>
      cases fl with
      | next => exact h.elim
      | brk => exact h.elim
      | cont => exact h.elim
      | ret u =>
        obtain ⟨v, H', os, bare, un, hok', r', q⟩ := h
        have q : v = .bl true := q
        subst q
        obtain rfl : u = Value.bool true := r'
        refine ⟨rfl, OldK.of_keep fun b o e => ?_, os, bare⟩
        by_cases q : H b = none
        · exact un.keep b o e q (by intro z; exact absurd (show b ∈ ([] : List Addr) from z) (by simp)) (by simp)
        · rcases hO b with z | ⟨ob, xs, z⟩
          · exact absurd z q
          · obtain ⟨e1, _⟩ := hok b _ z
            obtain ⟨e2, _⟩ := hok' b _ (un.frzs b ob _ z)
            rw [e] at e1
            cases e1
            exact e2
  cases hk : K.lookup a with
  | some o =>
    have e := KX a o hk
    rw [ha] at e
    cases e
    exact main (fun _ => none) (fun _ => .inl rfl) (.inr ⟨_, vs.toArray, _, hk, rfl, rfl, rfl, by rw [List.size_toArray, lenV]; exact hl, by simpa using vals_ints hi⟩) (fun b u z => nomatch (show (none : Option HO) = some u from z)) (fun b z => absurd rfl z) fun z => absurd rfl z
  | none =>
    have at1 : ∀ b, b = a → (if b = a then some (HO.frz { cls := .type "list", data := .seq vs.toArray } (.lst (ns.map V.int))) else none) = some (HO.frz { cls := .type "list", data := .seq vs.toArray } (.lst (ns.map V.int))) := fun b h => if_pos h
    have at0 : ∀ b, ¬ b = a → (if b = a then some (HO.frz { cls := .type "list", data := .seq vs.toArray } (.lst (ns.map V.int))) else none) = none := fun b h => if_neg h
    refine main (fun b => if b = a then some (.frz { cls := .type "list", data := .seq vs.toArray } (.lst (ns.map V.int))) else none) (fun b => ?_) (.inl (.inr ⟨_, at1 a rfl⟩)) (fun b u z => ?_) (fun b z => ?_) fun _ => hk
    · by_cases h : b = a
      · exact .inr ⟨_, _, at1 b h⟩
      · exact .inl (at0 b h)
    · by_cases h : b = a
      · have z' := (at1 b h).symm.trans z
        cases z'
        subst h
        exact ⟨ha, by rw [List.length_map]; exact hl, vs, _, vals_ints hi, ha⟩
      · exact nomatch (at0 b h).symm.trans z
    · by_cases h : b = a
      · exact h
      · exact absurd (at0 b h) z
theorem top_walk {l : PySem.W.OpenLaw} {n k : Nat} {q : Program} {loose : List Str} {XP : (Str → Option Value) → Heap → Prop} {YP : World → Heap → Prop} {d : DefRec} {K : Params → PySem.W.Frag} {CX : World → CXT} {sp : World → Sp} {x : Str}
    (hn : l.most = some n) (hn2 : n ≤ sizeLine) (hdf : d.params.defaults = []) (hr : Room k callerA) (hY : ∀ (w : World) (h : Heap), YP w h → (K w.params).In h)
    (F : ∀ (w : World) (mg : Str → Option Value) (fa : Addr) (h : Heap), (K w.params).In h → h.Ns mainGlobals mg → mg d.name = some (.ref fa) →
      ∃ fd : FuncData, (∀ (s : Shared) (u : Value), BindsTo s fd ⟨[u], []⟩ [(x, u)]) ∧ ∀ base : Heap, (K w.params).In base → base.Ns mainGlobals mg → FnG l.prog w (K w.params) mg base (CX w) k fa fd [x] (sp w))
    (hsp : ∀ (w : World) (H : Hp) (a : Addr) (ns : List Int), ns.length ≤ n → Only H → SqL (K w.params) H a (ns.map V.int) → sp w [.ref a] H (fun v _ => v = .bl true) fun _ _ _ => False)
    (hCX : ∀ (w : World) (H : Hp) (s : Shared) (e : Value) (s' : Shared), CX w [] H s (fun _ _ _ => False) e s' → False) :
    PySem.W.WalkO q loose XP YP l.row.toRowW d [] (fun f vs => PySem.call f vs) :=
  Att.attach_call hn hdf fun w s₀ s₁ mg mb fa o pm cd doc a vs ns G Y ho hd hcd hmg hobj hints hlen hg =>
    let ⟨fd, hb, hF⟩ := F w mg fa _ (hY w _ Y) G.T.g hmg
    top_call (hY w _ Y) G.T.g G.T.b G.T.builtins G.T.nolimit hg hobj hints (Nat.le_trans hlen hn2) hr hF hb (fun H hO hS => hsp w H a ns hlen hO hS) fun H e s' => hCX w H s₁ e s'
end VM
/-! Functions: what a call computes, and that each def keeps it. -/
namespace VM
open PySem L2 PyProof.Rows

/-! ### 1. the end of a call -/
/-- the callee's own cells are dropped -/
def EV.out (v : EV) (n : Nat) (μ : Sto) : Option EV := match v with
  | .cel k => if k < n then some (.cel k) else match μ[k]? with
    | some c => match c.live with
      | true => some (.new c.val)
      | false => some (.dat c.val.toD)
    | none => none
  | v => some v
def callEnd (n : Nat) (r : Res SO) : Res EV := match r with
  | .ok (.nx _) μ => .ok (.dat .non) (μ.take n)
  | .ok (.rt v) μ => match v.out n μ with
    | some v' => .ok v' (μ.take n)
    | none => .bad
  | .ok _ _ => .bad
  | .exc x μ => .exc x (μ.take n)
  | .bad => .bad
def startE (n : Nat) (vs : List SV) : Env := vs.map some ++ List.replicate (n - vs.length) none
def callF (nl : Nat) (b : SS) (F : Fns) (vs : List SV) (μ : Sto) : Res EV := callEnd μ.length (b F (startE nl vs) μ)
/-- the functions: how many slots, the body -/
abbrev Tab := List (Nat × SS)
def run (T : Tab) : Nat → Fns
  | 0 => fun _ _ _ => .bad
  | n + 1 => fun i vs μ => match T[i]? with
    | some (nl, b) => callF nl b (run T n) vs μ
    | none => .bad
section
variable {K : PySem.W.Frag} {XC : Nat → Addr} {F : Fns} {W : WX} {Acc : Addr → Prop} {ι ι' : List Addr} {μ μ' : Sto} {H H' : Hp}
theorem Cel.take {n : Nat} {a : Addr} (h : Cel (μ'.take n) ι a) (e : ∀ (k : Nat) (b : Addr), k < n → ι[k]? = some b → ι'[k]? = some b) : Cel μ' ι' a := by
  obtain ⟨k, c, h1, h2, h3⟩ := h
  have hk : k < n := by
    have := (List.getElem?_eq_some_iff.mp h1).1
    rw [List.length_take] at this; omega
  exact ⟨k, c, by rw [List.getElem?_take_of_lt hk] at h1; exact h1, h2, e k a hk h3⟩
theorem Stp.cut (S : Sim K Acc μ ι H) (t : Stp K Acc ι μ H ι' μ' H') : Stp K Acc ι μ H ι (μ'.take μ.length) H' ∧ Mv (Liv Acc μ' ι') H' (Liv Acc (μ'.take μ.length) ι) H' := by
  obtain ⟨ex, e, nx⟩ := t.pre
  have hl : ι'.length = μ'.length := t.sim.len
  have hl2 : μ.length ≤ μ'.length := by rw [← hl, e, List.length_append, S.len]; omega
  have eq : ∀ (k : Nat), k < μ.length → ι'[k]? = ι[k]? := fun k hk => by rw [e, List.getElem?_append_left (by rw [S.len]; exact hk)]
  have c : ∀ a, Cel (μ'.take μ.length) ι a → Cel μ' ι' a := fun a h => h.take fun k b hk hb => by rw [eq k hk]; exact hb
  have m : Mv (Liv Acc μ' ι') H' (Liv Acc (μ'.take μ.length) ι) H' := fun a o h n => ⟨h, fun z => n (z.imp (c a) id)⟩
  refine ⟨⟨⟨by rw [List.length_take, S.len]; omega, S.nd, fun a h => ⟨(S.acc a h).1, t.trk a (S.acc a h).2⟩, fun k d h => ?_, fun a h => t.sim.hot a (h.imp (c a) id)⟩, ⟨[], by simp, by simp⟩, t.keep, t.trk, fun a h => t.liv a (c a h)⟩, m⟩
  have hk : k < μ.length := by
    have := (List.getElem?_eq_some_iff.mp h).1
    rw [List.length_take] at this; omega
  rw [List.getElem?_take_of_lt hk] at h
  obtain ⟨a, e1, r⟩ := t.sim.cell k d h
  exact ⟨a, by rw [← eq k hk]; exact e1, r.mv m fun _ h => h⟩
/-- what the value is, behind the call -/
theorem out_ok (S : Sim K Acc μ ι H) (t : Stp K Acc ι μ H ι' μ' H') {v v' : EV} {u : V} (r : EvR K (Liv Acc μ' ι') ι' H H' v u) (o : OwnR K Acc μ' ι' H' v u) (h : v.out μ.length μ' = some v') :
    relE K Acc (μ'.take μ.length) ι H H' v' u := by
  obtain ⟨tc, m⟩ := t.cut S
  obtain ⟨ex, e, nx⟩ := t.pre
  have eq : ∀ (k : Nat), k < μ.length → ι'[k]? = ι[k]? := fun k hk => by rw [e, List.getElem?_append_left (by rw [S.len]; exact hk)]
  have hl : ι'.length = μ'.length := t.sim.len
  have c : ∀ a, Cel (μ'.take μ.length) ι a → Cel μ' ι' a := fun a h => h.take fun k b hk hb => by rw [eq k hk]; exact hb
  have pre : ∀ (k : Nat) (a : Addr), ι'[k]? = some a → ¬ k < μ.length → a ∈ ex := fun k a ha hk => by
    rw [e, List.getElem?_append_right (by rw [S.len]; omega)] at ha
    exact List.mem_of_getElem? ha
  cases v with
  | dat d => cases h; exact ⟨Rep.mv m _ _ r, trivial⟩
  | new c0 =>
    cases h
    obtain ⟨p, ep, np, rp⟩ := r
    subst ep
    refine ⟨⟨p, rfl, np, rp.mv m fun _ h => h⟩, fun q eq' => ?_⟩
    cases eq'
    obtain ⟨ow, rr⟩ := o p rfl
    have m3 : Mv (Liv (fun a => Acc a ∨ a = p) μ' ι') H' (Liv (fun a => Acc a ∨ a = p) (μ'.take μ.length) ι) H' := fun b o h n => ⟨h, fun z => n (z.imp (c b) id)⟩
    have pn : p ∉ ι' := (ow.acc p (.inr rfl)).1
    refine ⟨⟨tc.sim.len, tc.sim.nd, fun b hb => ?_, fun j d hj => ?_, fun b hb => ow.hot b (hb.imp (c b) id)⟩, rr.mv m3 fun _ h => h⟩
    · rcases hb with hb | rfl
      · exact tc.sim.acc b hb
      · exact ⟨fun z => pn (by rw [e]; exact List.mem_append_left _ z), (ow.acc b (.inr rfl)).2⟩
    · have hj2 : j < μ.length := by
        have := (List.getElem?_eq_some_iff.mp hj).1
        rw [List.length_take] at this; omega
      rw [List.getElem?_take_of_lt hj2] at hj
      obtain ⟨b, e1, r⟩ := ow.cell j d hj
      exact ⟨b, by rw [← eq j hj2]; exact e1, r.mv m3 fun _ h => h⟩
  | cel k =>
    obtain ⟨a, ea, eu⟩ := r
    subst eu
    simp only [EV.out] at h
    by_cases hk : k < μ.length
    · rw [if_pos hk] at h
      cases h
      exact ⟨⟨a, by rw [← eq k hk]; exact ea, rfl⟩, trivial⟩
    · rw [if_neg hk] at h
      cases hc : μ'[k]? with
      | none => rw [hc] at h; cases h
      | some cc =>
        rw [hc] at h
        simp only at h
        obtain ⟨b, eb, rb⟩ := t.sim.cell k cc hc
        rw [ea] at eb; cases eb
        have na := nx a (pre k a ea hk)
        have nι : a ∉ ι := fun z => S.trk z na
        have nA : ¬ Acc a := fun z => (S.acc a z).2 na
        cases hlv : cc.live with
        | false =>
          rw [hlv] at h
          cases h
          refine ⟨(rb.mv m fun _ h => h).rep fun z => ?_, trivial⟩
          rcases z with z | z
          · exact nι z.mem
          · exact nA z
        | true =>
          rw [hlv] at h
          cases h
          have la : Cel μ' ι' a := ⟨k, cc, hc, hlv, ea⟩
          have m2 : Mv (Liv Acc μ' ι') H' (Liv (fun b => Acc b ∨ b = a) (μ'.take μ.length) ι) H' := fun b o h n => ⟨h, fun z => n (by
            rcases z with z | z | z
            · exact .inl (c b z)
            · exact .inr z
            · subst z; exact .inl la)⟩
          refine ⟨⟨a, rfl, na, rb.mv m fun _ h => h⟩, fun q eq' => ?_⟩
          cases eq'
          refine ⟨⟨tc.sim.len, tc.sim.nd, fun b hb => ?_, fun j d hj => ?_, fun b hb => t.sim.hot b (hb.elim (fun z => .inl (c b z)) fun z => z.elim .inr fun e => .inl (by rw [e]; exact la))⟩, rb.mv m2 fun _ h => h⟩
          · rcases hb with hb | rfl
            · exact tc.sim.acc b hb
            · exact ⟨nι, rb.trk⟩
          · have hj2 : j < μ.length := by
              have := (List.getElem?_eq_some_iff.mp hj).1
              rw [List.length_take] at this; omega
            rw [List.getElem?_take_of_lt hj2] at hj
            obtain ⟨b, e1, r⟩ := t.sim.cell j d hj
            exact ⟨b, by rw [← eq j hj2]; exact e1, r.mv m2 fun _ h => h⟩
end

/-! ### 2. arguments -/
/-- what is handed over: a new object stands still from then on -/
def EV.arg : EV → SV
  | .dat d => .dat d
  | .cel k => .cel k
  | .new c => .dat c.toD
def SvsR (K : PySem.W.Frag) (L : Addr → Prop) (ι : List Addr) (H : Hp) : List SV → List V → Prop
  | [], vs => vs = []
  | s :: ss, vs => ∃ v r, vs = v :: r ∧ SvR K L ι H s v ∧ SvsR K L ι H ss r
section
variable {K : PySem.W.Frag} {L : Addr → Prop} {ι : List Addr} {H : Hp}
theorem SvsR.len : ∀ {ss : List SV} {vs : List V}, SvsR K L ι H ss vs → vs.length = ss.length
  | [], vs, h => by
    have h : vs = [] := h
    rw [h] <;> rfl
  | s :: ss, vs, h => by
    obtain ⟨v, r, rfl, _, h2⟩ := h
    rw [List.length_cons, List.length_cons, SvsR.len h2]
theorem SvsR.get : ∀ {ss : List SV} {vs : List V} {i : Nat} {s : SV}, SvsR K L ι H ss vs → ss[i]? = some s → ∃ v, vs[i]? = some v ∧ SvR K L ι H s v
  | [], vs, i, s, h, e => by simp at e
  | x :: ss, vs, 0, s, h, e => by
    obtain ⟨v, r, rfl, h1, _⟩ := h
    simp at e; subst e
    exact ⟨v, rfl, h1⟩
  | x :: ss, vs, i + 1, s, h, e => by
    obtain ⟨v, r, rfl, h1, h2⟩ := h
    obtain ⟨w, q1, q2⟩ := SvsR.get (i := i) h2 (by simpa using e)
    exact ⟨w, by simpa using q1, q2⟩
theorem start_ok {N : List Str} {ss : List SV} {vs : List V} (h : SvsR K L ι H ss vs) : EnvR K L ι H (startE N.length ss) (L2.start N vs) := by
  have hl := h.len
  unfold startE L2.start
  refine ⟨by simp [hl], fun i s e => ?_⟩
  by_cases hi : i < ss.length
  · rw [List.getElem?_append_left (by simpa using hi), List.getElem?_map] at e
    cases hs : ss[i]? with
    | none => rw [hs] at e; cases e
    | some t =>
      rw [hs] at e
      cases e
      obtain ⟨v, hv, r⟩ := h.get hs
      exact ⟨v, by rw [List.getElem?_append_left (by simpa [hl] using hi), List.getElem?_map, hv]; rfl, r⟩
  · rw [List.getElem?_append_right (by simpa using hi), List.getElem?_replicate] at e
    split at e <;> cases e
theorem args_ok {Acc : Addr → Prop} {μ : Sto} {Hb : Hp} (hb : ∀ a ∈ ι, Hb a ≠ none) (hq : ∀ a, Acc a → Hb a ≠ none) : ∀ {es : List EV} {vs : List V}, EvsR K (Liv Acc μ ι) ι Hb H es vs → SvsR K (Liv Acc μ ι) ι H (es.map EV.arg) vs
  | [], vs, h => h
  | e :: es, vs, h => by
    obtain ⟨v, r, rfl, h1, h2⟩ := h
    refine ⟨v, r, rfl, ?_, args_ok hb hq h2⟩
    cases e with
    | dat d => exact h1
    | cel k => exact h1
    | new c =>
      obtain ⟨p, rfl, n, rp⟩ := h1
      exact rp.rep fun z => z.elim (fun z => hb p z.mem n) fun z => hq p z n
end

/-! ### 3. the promise -/
/-- what a call of the i-th function gives -/
def spF (K : PySem.W.Frag) (XC : Nat → Addr) (F : Fns) (i np : Nat) : Sp := fun vs H Q _ => vs.length = np ∧
  ∃ (Acc : Addr → Prop) (ι : List Addr) (μ : Sto) (ss : List SV), Sim K Acc μ ι H ∧ SvsR K (Liv Acc μ ι) ι H ss vs ∧ wp (relE K) K XC W0 Acc ι μ H [] (F i ss μ) Q
/-- a function of the table: the name, the parameters -/
structure FnR (P : Program) (w : World) (K : PySem.W.Frag) (mg : Str → Option Value) (base : Heap) (XC : Nat → Addr) (F : Fns) (n : Nat) (i : Nat) (x : Str) (ps : List Str) (st : Stmt) : Prop where
  ex : ∃ (f : Addr) (fd : FuncData), Fun K x x st f fd ∧ mg x = some (.ref f) ∧ Binds K fd ps [] ∧ FnG P w K mg base CX0 n f fd ps (spF K XC F i ps.length)
theorem fn_rd {P : Program} {w : World} {K : PySem.W.Frag} {mg : Str → Option Value} {base : Heap} {XC : Nat → Addr} {T : Tab} {n i : Nat} {x : Str} {st : Stmt} {f : Addr} {fd : FuncData} {N ps : List Str} {b : SS} {nl : Nat} (F : Fun K x x st f fd) (S : FnScope N ps (defScope st)) (hT : T[i]? = some (nl, b)) (hn : N.length = nl)
    (hb : ∀ (cdv : Value) (A : Around) (outer : List PySem.Env) (s : Shared) (H : Hp) (E : XK), Room n (A.deeper (envOfC x (defScope st) s.heap.objs.size f cdv)) → A.guards = some [] →
      PSs (cxOf CX0 P w K mg base N x (defScope st) f cdv A outer s H E).nox (defBody st) (rdS K XC (run T n) W0 b)) :
    FnG P w K mg base CX0 (n + 1) f fd ps (spF K XC (run T (n + 1)) i ps.length) := by
  refine fnG_of F S (fun vs H Q E h => h.1) fun cdv A outer s H vs Q E hr hG ⟨hl, Acc, ι, μ, ss, S0, R, h⟩ => ?_
  refine ⟨_, (hb cdv A outer s H E hr hG).nox, Acc, ι, startE nl ss, μ, S0, by rw [← hn]; exact start_ok R, ?_⟩
  have h : wp (relE K) K XC W0 Acc ι μ H [] (callEnd μ.length (b (run T n) (startE nl ss) μ)) Q := by
    unfold run at h
    rw [hT] at h
    exact h
  cases e : b (run T n) (startE nl ss) μ with
  | bad => rw [e] at h; exact h
  | exc x μ' => rw [e] at h; exact fun ι' H' c d σ' t r => h c d H' (t.cut S0).1 ⟨r.1, by
      have r2 := r.2
      cases d with
      | none => exact r2
      | some d => exact ⟨r2.1, let ⟨vs, q1, q2⟩ := r2.2; ⟨vs, q1, Reps.mv (t.cut S0).2 _ _ q2⟩⟩⟩
  | ok o μ' =>
    rw [e] at h
    cases o with
    | bk _ => exact h.elim
    | ct _ => exact h.elim
    | nx ρ' => exact fun ι' H' σ' t E' => h .non H' (t.cut S0).1 ⟨rfl, trivial⟩
    | rt v =>
      intro ι' H' u t r o
      simp only [callEnd] at h
      cases ev : v.out μ.length μ' with
      | none => rw [ev] at h; exact h.elim
      | some v' =>
        rw [ev] at h
        exact h u H' (t.cut S0).1 (out_ok S0 t r o ev)
/-- with no calls left nothing is promised -/
theorem fn_zero {P : Program} {w : World} {K : PySem.W.Frag} {mg : Str → Option Value} {base : Heap} {XC : Nat → Addr} {T : Tab} {i : Nat} {f : Addr} {fd : FuncData} {ps : List Str} :
    FnG P w K mg base CX0 0 f fd ps (spF K XC (run T 0) i ps.length) :=
  ⟨fun vs H Q E h => h.1, fun A outer s H args us vs Q E _ _ _ _ _ ⟨_, _, _, _, _, _, _, h⟩ => h.elim⟩

/-! ### 4. calls -/
def eCall (i : Nat) (a : SA) : SE := fun F ρ μ => (a F ρ μ).bind fun vs μ1 => F i (vs.map EV.arg) μ1
section
variable {X : Cx} {XC : Nat → Addr} {F : Fns} {n i : Nat} {x : Str} {ps : List Str} {st : Stmt} {p pos : Pos} {e : Expr} {es : List Expr}
theorem call_rd {K : PySem.W.Frag} {fa : SA} {σ : L2.St} {H : Hp} {Q : VK} {np : Nat} (h : rdE K XC F W0 (eCall i fa) σ H Q) (hl : ∀ ρ μ vs μ', fa F ρ μ = .ok vs μ' → vs.length = np) : tCall (spF K XC F i np) [] E0 (rdA K XC F W0 fa) σ H Q := by
  obtain ⟨Acc, ι, ρ, μ, S, E, h⟩ := h
  refine rd.bind (Stp.refl S) E h fun vs μ1 xs H1 e1 t1 r1 h1 => ?_
  rw [List.append_nil]
  have hlx : xs.length = vs.length := by
    clear h1 e1
    induction vs generalizing xs with
    | nil =>
      have r1 : xs = [] := r1
      rw [r1] <;> rfl
    | cons v vs ih =>
      obtain ⟨y, r, rfl, _, h2⟩ := r1
      rw [List.length_cons, List.length_cons, ih r h2]
  have ra := args_ok (fun a h => S.trk h) (fun a h => (S.acc a h).2) r1
  refine ⟨by rw [hlx]; exact hl _ _ _ _ e1, Acc, ι, μ1, _, t1.sim, ra, ?_⟩
  replace h1 := wp.shift t1 h1
  cases hc : F i (vs.map EV.arg) μ1 with
  | bad => rw [hc] at h1; exact h1
  | exc x μ' => rw [hc] at h1; exact h1
  | ok v μ' => rw [hc] at h1; exact h1
theorem c_call {fs : List SE} (G : FnR X.prog X.w X.K X.mg X.base XC F n i x ps st) (hr : Room n X.A) (hG : X.A.guards = some []) (hg : Gl X x) (ha : PA X (e :: es) (rdA X.K XC F W0 (evs fs))) (hl : fs.length = ps.length := by rfl)
    (hdb : (x == ("__debug__" : Str)) = false := by decide) (he : starEach (e :: es) X.env = (false, eval e X.env) :: starEach es X.env := by rfl) (hpl : (backTo pos (starEach es X.env)).any (·.1) = false := by rfl) :
    PE X (.Call (.Name x p) (e :: es) [] pos) (rdE X.K XC F W0 (eCall i (evs fs))) := by
  obtain ⟨f, fd, FF, hm, hb, G⟩ := G.ex
  exact PEimp (pe_g (E := E0) G hr hG hg hm FF.kp hb .nil pass0 ha hdb he hpl) fun σ H Q h => call_rd h fun ρ μ vs μ' h => by rw [evs_len _ _ _ _ _ _ h, hl]
theorem c_call0 (G : FnR X.prog X.w X.K X.mg X.base XC F n i x [] st) (hr : Room n X.A) (hG : X.A.guards = some []) (hg : Gl X x) (hdb : (x == ("__debug__" : Str)) = false := by decide) :
    PE X (.Call (.Name x p) [] [] pos) (rdE X.K XC F W0 (eCall i (evs []))) := by
  obtain ⟨f, fd, FF, hm, hb, G⟩ := G.ex
  refine PEimp (pe_g0 (E := E0) G hr hG hg hm FF.kp hb .nil pass0 hdb) fun σ H Q h => ?_
  obtain ⟨Acc, ι, ρ, μ, S, E, h⟩ := h
  refine ⟨rfl, Acc, ι, μ, [], S, rfl, ?_⟩
  simp only [eCall, evs, Res.bind, List.map_nil] at h
  cases hc : F i [] μ with
  | bad => rw [hc] at h; exact h
  | exc x μ' => rw [hc] at h; exact h
  | ok v μ' => rw [hc] at h; exact h
end

/-! ### 5. keywords -/
def gP {α : Type} (nu nk : Nat) (perm : List Nat) (us ws : List α) : List α := if us.length = nu ∧ ws.length = nk then perm.filterMap fun i => (us ++ ws)[i]? else []
theorem vals_pick {vs : List V} {us : List Value} (h : Vals vs us) : ∀ perm : List Nat, Vals (perm.filterMap fun i => vs[i]?) (perm.filterMap fun i => us[i]?)
  | [] => .nil
  | i :: perm => by
    rw [List.filterMap_cons, List.filterMap_cons]
    cases e : vs[i]? with
    | some v =>
      obtain ⟨u, hu, r⟩ := h.get e
      rw [hu]
      exact .cons r (vals_pick h perm)
    | none =>
      have : us[i]? = none := by
        rw [List.getElem?_eq_none_iff] at e ⊢
        rw [← h.length]; exact e
      rw [this]
      exact vals_pick h perm
theorem Fun.kbinds {K : PySem.W.Frag} {x qual : Str} {st : Stmt} {f : Addr} {fd : FuncData} {ps ks : List Str} (F : Fun K x qual st f fd) (nu nk : Nat) (perm : List Nat) (hp : ps.isEmpty = false)
    (h : ∀ (kV doc pm : Value) (an : Option Addr) (cdv ct : Value) (us ws : List Value), us.length = nu → ws.length = nk → bindArgs (PySem.W.fnOf x qual (defArgs st) (defBody st) (defScope st) .none kV doc pm an cdv ct) ⟨us, ks.zip ws⟩ = pure (ps.zip (perm.filterMap fun i => (us ++ ws)[i]?))) :
    KBinds K fd ps ks (gP nu nk perm) (gP nu nk perm) := by
  obtain ⟨oc, od, kV, doc, pm, an, cdv, ct, osl, rfl, lk, hcd⟩ := F.ex
  refine ⟨fun s us ws _ hl => ?_, fun {vs us zs ws} r rz => ?_⟩
  · unfold gP at hl ⊢
    by_cases c : us.length = nu ∧ ws.length = nk
    · rw [if_pos c]
      exact .of_eq (h kV doc pm an cdv ct us ws c.1 c.2)
    · rw [if_neg c] at hl
      cases ps with
      | nil => cases hp
      | cons _ _ => cases hl
  · unfold gP
    rw [r.length, rz.length]
    by_cases c : us.length = nu ∧ ws.length = nk
    · rw [if_pos c, if_pos c]
      exact vals_pick (r.append rz) perm
    · rw [if_neg c, if_neg c]
      exact .nil
def eCallK (i : Nat) (a k : SA) (perm : List Nat) : SE := fun F ρ μ => (a F ρ μ).bind fun vs μ1 => (k F ρ μ1).bind fun zs μ2 => F i ((perm.filterMap fun i => (vs ++ zs)[i]?).map EV.arg) μ2
theorem EvsR.app {K : PySem.W.Frag} {L : Addr → Prop} {ι : List Addr} {H0 H : Hp} : ∀ {es fs : List EV} {vs ws : List V}, EvsR K L ι H0 H es vs → EvsR K L ι H0 H fs ws → EvsR K L ι H0 H (es ++ fs) (vs ++ ws)
  | [], fs, vs, ws, h, g => by
    have h : vs = [] := h
    subst h; exact g
  | e :: es, fs, vs, ws, h, g => by
    obtain ⟨v, r, rfl, h1, h2⟩ := h
    exact ⟨v, r ++ ws, rfl, h1, EvsR.app h2 g⟩
theorem EvsR.len {K : PySem.W.Frag} {L : Addr → Prop} {ι : List Addr} {H0 H : Hp} : ∀ {es : List EV} {vs : List V}, EvsR K L ι H0 H es vs → vs.length = es.length
  | [], vs, h => by
    have h : vs = [] := h
    subst h; rfl
  | e :: es, vs, h => by
    obtain ⟨v, r, rfl, h1, h2⟩ := h
    rw [List.length_cons, List.length_cons, EvsR.len h2]
theorem EvsR.get {K : PySem.W.Frag} {L : Addr → Prop} {ι : List Addr} {H0 H : Hp} : ∀ {es : List EV} {vs : List V} {i : Nat} {e : EV}, EvsR K L ι H0 H es vs → es[i]? = some e → ∃ v, vs[i]? = some v ∧ EvR K L ι H0 H e v
  | [], vs, i, e, h, q => by simp at q
  | x :: es, vs, 0, e, h, q => by
    obtain ⟨v, r, rfl, h1, h2⟩ := h
    simp at q; subst q
    exact ⟨v, rfl, h1⟩
  | x :: es, vs, i + 1, e, h, q => by
    obtain ⟨v, r, rfl, h1, h2⟩ := h
    obtain ⟨w, q1, q2⟩ := EvsR.get (i := i) h2 (by simpa using q)
    exact ⟨w, by simpa using q1, q2⟩
theorem EvsR.pick {K : PySem.W.Frag} {L : Addr → Prop} {ι : List Addr} {H0 H : Hp} {es : List EV} {vs : List V} (h : EvsR K L ι H0 H es vs) : ∀ perm : List Nat, EvsR K L ι H0 H (perm.filterMap fun i => es[i]?) (perm.filterMap fun i => vs[i]?)
  | [] => rfl
  | i :: perm => by
    rw [List.filterMap_cons, List.filterMap_cons]
    cases e : es[i]? with
    | some v =>
      obtain ⟨u, hu, r⟩ := h.get e
      rw [hu]
      exact ⟨u, _, rfl, r, EvsR.pick h perm⟩
    | none =>
      have : vs[i]? = none := by
        rw [List.getElem?_eq_none_iff] at e ⊢
        rw [h.len]; exact e
      rw [this]
      exact EvsR.pick h perm
theorem callK_rd {K : PySem.W.Frag} {XC : Nat → Addr} {F : Fns} {i : Nat} {fa fk : SA} {σ : L2.St} {H : Hp} {Q : VK} {nu nk np : Nat} {perm : List Nat} (h : rdE K XC F W0 (eCallK i fa fk perm) σ H Q) (hl : ∀ ρ μ vs μ', fa F ρ μ = .ok vs μ' → vs.length = nu) (hk : ∀ ρ μ vs μ', fk F ρ μ = .ok vs μ' → vs.length = nk)
    (hp : perm.length = np) (hb : ∀ i ∈ perm, i < nu + nk) : tCallK (spF K XC F i np) (gP nu nk perm) E0 (rdA K XC F W0 fa) (rdA K XC F W0 fk) σ H Q := by
  obtain ⟨Acc, ι, ρ, μ, S, E, h⟩ := h
  refine rd.bind (Stp.refl S) E h fun vs μ1 xs H1 e1 t1 r1 h1 => ?_
  refine rd.bind t1 (E.mv t1 S) h1 fun zs μ2 ys H2 e2 t2 r2 h2 => ?_
  have t12 := t1.trans t2
  have r12 := (EvsR.mv t1 S t2 r1).app (EvsR.back t1 r2)
  have l1 : xs.length = nu := by rw [r1.len]; exact hl _ _ _ _ e1
  have l2 : ys.length = nk := by rw [r2.len]; exact hk _ _ _ _ e2
  have eg : gP nu nk perm xs ys = perm.filterMap fun i => (xs ++ ys)[i]? := if_pos ⟨l1, l2⟩
  rw [eg]
  have ra := args_ok (fun a h => S.trk h) (fun a h => (S.acc a h).2) (r12.pick perm)
  have len : ∀ perm : List Nat, (∀ i ∈ perm, i < nu + nk) → (perm.filterMap fun i => (xs ++ ys)[i]?).length = perm.length := by
    intro perm
    induction perm with
    | nil => intro _; rfl
    | cons j perm ih =>
      intro hb
      have hj := hb j List.mem_cons_self
      have : j < (xs ++ ys).length := by rw [List.length_append]; omega
      rw [List.filterMap_cons, List.getElem?_eq_getElem this, List.length_cons, List.length_cons, ih fun i hi => hb i (List.mem_cons_of_mem _ hi)]
  refine ⟨by rw [len perm hb, hp], Acc, ι, μ2, _, t2.sim, ra, ?_⟩
  replace h2 := wp.shift t12 h2
  cases hc : F i ((perm.filterMap fun i => (vs ++ zs)[i]?).map EV.arg) μ2 with
  | bad => rw [hc] at h2; exact h2
  | exc x μ' => rw [hc] at h2; exact h2
  | ok v μ' => rw [hc] at h2; exact h2
theorem PKimp {X : Cx} {k : List Keyword} {t t' : TA} (h : PK X k t) (i : ∀ σ H Q, t' σ H Q → t σ H Q) : PK X k t' := ⟨fun pos pins s σ H Q I q => h.run pos pins s σ H Q I (i σ H Q q)⟩
section
variable {X : Cx} {XC : Nat → Addr} {F : Fns} {W : WX} {n i : Nat} {x : Str} {ps ks : List Str} {st : Stmt} {p pos kpos : Pos} {e : Expr} {es : List Expr} {kws : List Keyword} {nm : Option Str} {fe : SE} {fs fk : List SE}
theorem ck_nil : PK X [] (rdA X.K XC F W (evs [])) := PKimp pk_nil fun σ H Q ⟨Acc, ι, ρ, μ, S, E, h⟩ => h [] H (.refl S) rfl
theorem ck_cons (ha : PE X e (rdE X.K XC F W fe)) (hr : PK X kws (rdA X.K XC F W (evs fs))) : PK X (⟨nm, e, kpos⟩ :: kws) (rdA X.K XC F W (evs (fe :: fs))) :=
  PKimp (pk_cons ha hr) fun σ H Q ⟨Acc, ι, ρ, μ, S, E, h⟩ => by
    refine rd.bind (.refl S) E h fun v μ1 x H1 _ t1 r1 h1 => ?_
    refine rd.bind t1 (E.mv t1 S) h1 fun vs μ2 xs H2 _ t2 r2 h2 => ?_
    exact h2 (x :: xs) H2 (t1.trans t2) ⟨x, xs, rfl, EvR.mv t1 S t2 r1.1 rfl, EvsR.back t1 r2⟩
theorem c_callK (G : FnR X.prog X.w X.K X.mg X.base XC F n i x ps st) (nu nk : Nat) (perm : List Nat) (hr : Room n X.A) (hG : X.A.guards = some []) (hg : Gl X x)
    (kb : ∀ (f : Addr) (fd : FuncData), Fun X.K x x st f fd → KBinds X.K fd ps ks (gP nu nk perm) (gP nu nk perm)) (ha : PA X (e :: es) (rdA X.K XC F W0 (evs fs))) (hkw : PK X kws (rdA X.K XC F W0 (evs fk)))
    (hl : fs.length = nu := by rfl) (hk : fk.length = nk := by rfl) (hp : perm.length = ps.length := by rfl) (hbd : ∀ i ∈ perm, i < nu + nk := by decide)
    (hall : (backToKw pos (keywordEach kws X.env)).all (·.1.isSome) = true := by rfl) (hks : (backToKw pos (keywordEach kws X.env)).filterMap (·.1) = ks := by rfl)
    (hdb : (x == ("__debug__" : Str)) = false := by decide) (he : starEach (e :: es) X.env = (false, eval e X.env) :: starEach es X.env := by rfl)
    (hpl : ((backTo pos (starEach (e :: es) X.env)).any (·.1) || (backToKw pos (keywordEach kws X.env)).any (·.1.isNone)) = false := by rfl) :
    PE X (.Call (.Name x p) (e :: es) kws pos) (rdE X.K XC F W0 (eCallK i (evs fs) (evs fk) perm)) := by
  obtain ⟨f, fd, FF, hm, hb, G⟩ := G.ex
  exact PEimp (pe_gK (E := E0) G hr hG hg hm FF.kp (kb f fd FF) pass0 ha hkw hall hks hdb he hpl) fun σ H Q h => callK_rd h (fun ρ μ vs μ' h => by rw [evs_len _ _ _ _ _ _ h, hl]) (fun ρ μ vs μ' h => by rw [evs_len _ _ _ _ _ _ h, hk]) hp hbd
theorem c_callKz (G : FnR X.prog X.w X.K X.mg X.base XC F n i x ps st) (nk : Nat) (perm : List Nat) (hr : Room n X.A) (hG : X.A.guards = some []) (hg : Gl X x)
    (kb : ∀ (f : Addr) (fd : FuncData), Fun X.K x x st f fd → KBinds X.K fd ps ks (gP 0 nk perm) (gP 0 nk perm)) (hkw : PK X kws (rdA X.K XC F W0 (evs fk)))
    (hk : fk.length = nk := by rfl) (hp : perm.length = ps.length := by rfl) (hbd : ∀ i ∈ perm, i < 0 + nk := by decide)
    (hall : (backToKw pos (keywordEach kws X.env)).all (·.1.isSome) = true := by rfl) (hks : (backToKw pos (keywordEach kws X.env)).filterMap (·.1) = ks := by rfl)
    (hdb : (x == ("__debug__" : Str)) = false := by decide) (hpl : ((backTo pos (starEach [] X.env)).any (·.1) || (backToKw pos (keywordEach kws X.env)).any (·.1.isNone)) = false := by rfl) :
    PE X (.Call (.Name x p) [] kws pos) (rdE X.K XC F W0 (eCallK i (evs []) (evs fk) perm)) := by
  obtain ⟨f, fd, FF, hm, hb, G⟩ := G.ex
  refine PEimp (pe_gKz (E := E0) G hr hG hg hm FF.kp (kb f fd FF) pass0 hkw hall hks hdb hpl) fun σ H Q h => ?_
  have z := callK_rd (nu := 0) h (fun ρ μ vs μ' h => by cases h; rfl) (fun ρ μ vs μ' h => by rw [evs_len _ _ _ _ _ _ h, hk]) hp hbd
  obtain ⟨Acc, ι, ρ, μ, S, E, hz⟩ := z
  exact hz [] H (.refl S) rfl
end
end VM
/-! enumerate over a tuple: the machine's side. -/
namespace PySem
open Sem (wp)
set_option maxHeartbeats 1000000 in
theorem vm_enumNew {v : Value} {o : Obj} {H : Heap → Prop} (B : Begins v o H) :
    Meets (Builtin.«enumerate.__new__» ⟨[.type "enumerate", v], []⟩) (fun _ R s => H s.heap ∧
      R (.ok (.ret (.ref (s.heap.push o).objs.size))) { s with heap := (s.heap.push o).push { cls := .type "enumerate", data := .fields #[.none, .bool false, .ref s.heap.objs.size, rawInt 0, .none, .none] } }) := by
  refine .of_wp fun prog w A R s h => ?_
  obtain ⟨hp, g, d, tk, os⟩ := s
  obtain ⟨h1, h⟩ := h
  have hsub := sub_enumerate
  have q1 : ∀ {A' : Around} {E : Value → Shared → Prop} {Q : Value → Shared → Prop}, Q (.ref hp.objs.size) ⟨hp.push o, g, d, tk, os⟩ → wpAny (model prog w) A' (pyIter v) Q E ⟨hp, g, d, tk, os⟩ := fun q => B.iter prog w _ _ ⟨hp, g, d, tk, os⟩ _ h1 q
  wp_walk using q1
  refine wpAny_stack_any fun st => wpAny_pure ?_
  split
  · rename_i c _ _ _ _ _
    cases (c == Value.type "enumerate")
    · wp_walk using q1
      exact ⟨_, rfl, h⟩
    · wp_walk using q1
      exact ⟨_, rfl, h⟩
  · wp_walk using q1
    exact ⟨_, rfl, h⟩
theorem vm_enumCall {prog : Program} {w : World} {A : Around} {E : Value → Shared → Prop} {s : Shared} {v : Value} {o : Obj} {H : Heap → Prop} {Q : Value → Shared → Prop} (B : Begins v o H) (h1 : H s.heap)
    (h : ∀ h', IsEnum h' (s.heap.objs.size + 1) s.heap.objs.size 0 .none → h'.get? s.heap.objs.size = some o → (∀ b o, s.heap.get? b = some o → h'.get? b = some o) → Q (.ref (s.heap.objs.size + 1)) { s with heap := h' }) :
    wpAny (model prog w) A (call (.type "enumerate") [v]) Q E s := by
  refine callType_new F.called_enumerate (by decide) (F.typeCall_enumerate_1 _) (F.newCall_enumerate_1 _) (fun obj => F.args_object_init_2 obj _) F.entry_enumerate_new (vm_enumNew B) ⟨h1, ?_⟩
  have hz : (s.heap.push o).objs.size = s.heap.objs.size + 1 := Heap.size_push ..
  show _ ∧ _
  rw [hz]
  have he : IsEnum ((s.heap.push o).push { cls := .type "enumerate", data := .fields #[.none, .bool false, .ref s.heap.objs.size, rawInt 0, .none, .none] }) (s.heap.objs.size + 1) s.heap.objs.size 0 .none := by
    have := Heap.get?_push_size (s.heap.push o) (o := { cls := .type "enumerate", data := .fields #[.none, .bool false, .ref s.heap.objs.size, rawInt 0, .none, .none] }) rfl
    rw [hz] at this
    exact this
  exact ⟨⟨_, he, rfl⟩, h _ he (Heap.get?_push_of_some _ (Heap.get?_push_size _ B.free)) fun b o x => Heap.get?_push_of_some _ (Heap.get?_push_of_some _ x)⟩
end PySem
namespace VM
open PySem L2 PyProof.Rows
/-- the tuple at a, each item in a new pair -/
def Itet (K : PySem.W.Frag) (a : Addr) : It :=
  ⟨fun i H => ∃ (xs : List V) (x : V), SqT K H a xs ∧ xs[i]? = some x, fun i H v H' => ∃ T x, v = .ref T ∧ H T = none ∧ H' = upd H T (.tup [.int (i : Nat), x]) ∧ ∀ xs, SqT K H a xs → xs[i]? = some x, fun i H => ∃ xs : List V, SqT K H a xs ∧ xs.length ≤ i⟩
theorem turn_enumT {P : Program} {w : World} {K : PySem.W.Frag} {elts : List Expr} {kk : Nat} {tpos : Pos} (a e it : Addr) :
    Turn P w K (.Tuple elts kk tpos) (Itet K a) [e, it] e (fun i h => (∃ old, IsEnum h e it ((i : Nat) : Int) old) ∧ h.IsTupleIter it a i ∧ e ≠ it) where
  mem := by simp
  obj := fun i h st b hb => by
    obtain ⟨⟨old, he⟩, ⟨o, ho, hc, hd⟩, _⟩ := st
    have e' : b = e ∨ b = it := by simpa using hb
    rcases e' with z | z
    · rw [z]; exact ⟨_, he, fun v q => nomatch q⟩
    · rw [z]; exact ⟨o, ho, fun v q => by rw [hd] at q; cases q⟩
  keep := fun i h h' st k => let ⟨⟨old, he⟩, hi, hne⟩ := st; ⟨⟨old, k e (by simp) _ he⟩, hi.at fun o q => k it (by simp) o q, hne⟩
  item := by
    intro X hP hw hK hc i pins s σ H E I hf st hg
    subst hP hw hK
    obtain ⟨⟨old, he⟩, hit, hne⟩ := st
    obtain ⟨xs, x, hq, hx⟩ := hg
    obtain ⟨its, rv, p, hz⟩ := I.tuple hq
    have p : s.heap.IsTuple a its.toArray := p
    obtain ⟨u, hu, ru⟩ := rv.get hx
    have hel : e < s.heap.objs.size := Heap.lt_size he
    have hil : it < s.heap.objs.size := by obtain ⟨_, q, _⟩ := hit; exact Heap.lt_size q
    have hai : a ≠ it := by
      rintro rfl
      obtain ⟨o1, q1, c1, _⟩ := hit
      obtain ⟨o2, q2, c2, _⟩ := p
      rw [q1] at q2; cases q2
      rw [c1] at c2; exact absurd (Value.type.inj c2) (by decide)
    have hea : e ∉ [it, a] := by
      intro z
      rcases List.mem_cons.mp z with z | z
      · exact hne z
      · have z : e = a := by simpa using z
        subst z
        obtain ⟨o2, q2, c2, _⟩ := p
        rw [he] at q2; cases q2
        exact absurd (Value.type.inj c2) (by decide)
    have hl := rv.length
    have hi : i < its.toArray.size := by
      have := (List.getElem?_eq_some_iff.mp hu).1
      simpa using this
    refine wpAny_pyNext_enum_itemD (Draws.tuple (A := X.A.in1) (I.ok.hd hc) it a hai its.toArray) he ⟨hit, p⟩ hi hne hea fun x' h' tk hP ho st' hT hsz hk => ?_
    have ex : x' = u := by
      have h1 : its.toArray[i]? = some u := by simpa using hu
      rw [h1] at hP
      exact (Option.some.inj hP).symm
    subst ex
    refine ⟨_, rfl, wpAny_letOwnedTupleGo_enum (s := { s with heap := h', toks := tk + 1 }) ho fun h'' he' sb => ?_⟩
    have hT2 : h''.get? s.heap.objs.size = some { cls := .type "tuple", data := .seq #[.int i tk, x'] } := (sb.2 _ (Nat.ne_of_gt hel)).trans hT
    have new : ObjOk X.prog X.w (upd H s.heap.objs.size (.tup [.int (i : Nat), x])) h'' s.heap.objs.size (.tup [.int (i : Nat), x]) :=
      ⟨by show 2 ≤ sizeLine; decide, [.int i tk, x'], .cons ⟨_, rfl⟩ (.cons ru .nil), ⟨_, hT2, rfl, _, rfl⟩⟩
    have I1 : Inv X pins σ (upd H s.heap.objs.size (.tup [.int (i : Nat), x])) { s with heap := h'', toks := tk + 1 } :=
      I.turnedNew (ch := [e, it]) (fun b ob hb q => (sb.2 b (fun z => hb (by simp [z]))).trans (hk b ob (fun z => hb (by simp [z])) (fun z => hb (by simp [z])) q)) hf (Nat.le_refl _) new
    refine ⟨.ref s.heap.objs.size, _, I1, rfl, ⟨_, x, rfl, I.hok.fresh (Nat.le_refl _), rfl, fun ys hy => by rw [I.tuple_inj hy hq]; exact hx⟩, ⟨⟨x', ?_⟩, st'.1.at fun o q => (sb.2 it (Ne.symm hne)).trans q, hne⟩, fun b hb => ?_⟩
    · have e1 : ((i + 1 : Nat) : Int) = (i : Int) + 1 := by omega
      rw [e1]; exact he'
    · have hb' : b < s.heap.objs.size := by
        have e' : b = e ∨ b = it := by simpa using hb
        rcases e' with z | z
        · rw [z]; exact hel
        · rw [z]; exact hil
      rw [upd_ne (Nat.ne_of_lt hb')]
      exact (hf b hb).1
  done := by
    intro X hP hw hK hc i pins s σ H E I hf st hg
    subst hP hw hK
    obtain ⟨⟨old, he⟩, hit, hne⟩ := st
    obtain ⟨xs, hq, hx⟩ := hg
    obtain ⟨its, rv, p, hz⟩ := I.tuple hq
    have p : s.heap.IsTuple a its.toArray := p
    obtain ⟨f0, f1, f2, f3, f4, f5⟩ := hf it (by simp)
    have hl := rv.length
    have hai : a ≠ it := by
      rintro rfl
      obtain ⟨o1, q1, c1, _⟩ := hit
      obtain ⟨o2, q2, c2, _⟩ := p
      rw [q1] at q2; cases q2
      rw [c1] at c2; exact absurd (Value.type.inj c2) (by decide)
    have D : Draws X.prog X.w X.A.in1 it [it, a] i (fun _ _ => True) (fun j h => j = i ∧ h.IsTupleIter it a i ∧ h.IsTuple a its.toArray) :=
      { live := fun _ _ st => let ⟨_, ⟨o, ho, _⟩, _⟩ := st; ⟨o, ho⟩
        frame := fun _ _ _ st hk => ⟨st.1, st.2.1.at fun o e => hk it (by simp) o e, st.2.2.at fun o e => hk a (by simp) o e⟩
        item := fun j s Q E hj st _ => absurd st.1 (Nat.ne_of_lt hj)
        done := fun s Q E st hE => wpAny_nextOf_tuple_end (A := X.A.in1) (I.ok.hd hc) st.2.1 st.2.2 (by simp; omega) hE }
    exact wpAny_pyNext_enum_endD D he ⟨rfl, hit, p⟩ fun h' eb => ⟨rfl, I.turned (t' := s.toks) (fun b o hb q => eb b o hb q) f0 f1 f3 f4 f5⟩
  self := fun A i s Q E st h => let ⟨⟨_, he⟩, _⟩ := st; wpAny_pyIter_enum he h

def iEnumT (K : PySem.W.Frag) (ta : TA) : TI := fun σ H R => ta σ H fun vs H1 => ∃ a xs, vs = [.ref a] ∧ SqT K H1 a xs ∧ R (Itet K a) H1
theorem pi_enumT {X : Cx} {e : Expr} {ta : TA} {p pos tpos : Pos} {elts : List Expr} {kk : Nat} (hg : Gl X "enumerate") (hm : X.mg "enumerate" = none) (ha : PA X [e] ta) (hs : starEach [e] X.env = [(false, eval e X.env)] := by rfl) :
    PI X (.Tuple elts kk tpos) (.Call (.Name "enumerate" p) [e] [] pos) (iEnumT X.K ta) := by
  refine ⟨fun pins s σ H R I h => ?_⟩
  refine Call_ (ld_blt I hg hm boot_enumerate (PyProof.Rows.callWith_type1 (thn (ha.run pos pins s σ H _ I h) fun us s1 ⟨vs, H1, I1, r1, q1⟩ => ?_) hs rfl))
  obtain ⟨a, xs, ex, hq, q⟩ := q1
  subst ex
  cases r1 with
  | cons r rr =>
    cases rr
    cases r
    obtain ⟨its, rv, p', hz⟩ := I1.tuple hq
    refine vm_enumCall (begins_tuple a its.toArray) p' fun h' he hit hk => wpAny_pyIter_enum he ?_
    have I2 : Inv X pins σ H1 { s1 with heap := h' } := I1.kept (t' := s1.toks) hk
    refine ⟨s1.heap.objs.size + 1, [s1.heap.objs.size + 1, s1.heap.objs.size], _, _, H1, rfl, I2, turn_enumT a (s1.heap.objs.size + 1) s1.heap.objs.size, ⟨⟨.none, he⟩, ⟨_, hit, rfl, rfl⟩, Nat.succ_ne_self _⟩, fun b hb => ?_, q⟩
    have e' : b = s1.heap.objs.size + 1 ∨ b = s1.heap.objs.size := by simpa using hb
    have hle : s1.heap.objs.size ≤ b := by
      rcases e' with z | z
      · rw [z]; exact Nat.le_add_right _ _
      · rw [z]; exact Nat.le_refl _
    exact I1.fpOk hle (I1.hok.fresh hle)
/-- either, by what it is -/
theorem pi_or {X : Cx} {tg e : Expr} {t t' : TI} (h : PI X tg e t) (h' : PI X tg e t') : PI X tg e (fun σ H R => t σ H R ∨ t' σ H R) := ⟨fun pins s σ H R I q => q.elim (fun q => h.run pins s σ H R I q) fun q => h'.run pins s σ H R I q⟩
end VM
/-! enumerate, dicts, comprehensions: the rules. -/
namespace VM
open PySem L2 PyProof.Rows
def Src.enum : Src → Src
  | .vals ds => .vals (enumD ds)
  | .cell k => .ecell k
  | .ecell k => .ecell k
def Src.plain : Src → Bool
  | .ecell _ => false
  | _ => true
theorem enumD_len {ds : List D} : (enumD ds).length = ds.length := by unfold enumD; simp
theorem enumD_get {ds : List D} {i : Nat} : (enumD ds)[i]? = (ds[i]?).map fun d => .tup [.int (i : Nat), d] := by
  unfold enumD
  rw [List.getElem?_map, List.getElem?_zipIdx]
  cases ds[i]? with
  | none => rfl
  | some d => simp
theorem enum_at {s : Src} {μ : Sto} (h : s.plain = true) : s.enum.at μ = (s.at μ).map enumD := by
  cases s with
  | vals ds => rfl
  | ecell k => cases h
  | cell k =>
    simp only [Src.enum, Src.at]
    cases μ[k]? with
    | none => rfl
    | some c =>
      cases hv : c.val <;> simp [hv]
section
variable {K : PySem.W.Frag} {Acc : Addr → Prop} {ι : List Addr} {μ : Sto} {H : Hp}
theorem jr_enumL {a : Addr} {s : Src} (hs : s.plain = true) (h : JR K (Itl K a) s Acc ι μ H) : JR K (Ite K a) s.enum Acc ι μ H := by
  intro Acc' ι' μ' H' S m pr es he i
  rw [enum_at hs] at he
  cases e0 : s.at μ' with
  | none => rw [e0] at he; cases he
  | some ds =>
    rw [e0] at he
    cases he
    have j := h Acc' ι' μ' H' S m pr ds e0 i
    rw [enumD_get, enumD_len]
    refine ⟨fun d hd => ?_, j.2⟩
    cases hd0 : ds[i]? with
    | none => rw [hd0] at hd; cases hd
    | some d0 =>
      rw [hd0] at hd
      cases hd
      obtain ⟨jg, jy⟩ := j.1 d0 hd0
      refine ⟨jg, fun v H'' y => ?_⟩
      obtain ⟨T, x, rfl, nT, rfl, hx⟩ := y
      obtain ⟨_, r⟩ := jy x H' ⟨rfl, hx⟩
      exact ⟨S.up nT _, S.newT nT (Reps.cons rep_int (Reps.cons r Reps.nil))⟩
theorem jr_enumT {a : Addr} {s : Src} (hs : s.plain = true) (h : JR K (Itt K a) s Acc ι μ H) : JR K (Itet K a) s.enum Acc ι μ H := by
  intro Acc' ι' μ' H' S m pr es he i
  rw [enum_at hs] at he
  cases e0 : s.at μ' with
  | none => rw [e0] at he; cases he
  | some ds =>
    rw [e0] at he
    cases he
    have j := h Acc' ι' μ' H' S m pr ds e0 i
    rw [enumD_get, enumD_len]
    refine ⟨fun d hd => ?_, j.2⟩
    cases hd0 : ds[i]? with
    | none => rw [hd0] at hd; cases hd
    | some d0 =>
      rw [hd0] at hd
      cases hd
      obtain ⟨jg, jy⟩ := j.1 d0 hd0
      refine ⟨jg, fun v H'' y => ?_⟩
      obtain ⟨T, x, rfl, nT, rfl, hx⟩ := y
      obtain ⟨_, r⟩ := jy x H' ⟨rfl, hx⟩
      exact ⟨S.up nT _, S.newT nT (Reps.cons rep_int (Reps.cons r Reps.nil))⟩
end
def isTx : EV → Bool
  | .dat (.str _) => true
  | _ => false
def iEnm (f : SE) : SI := fun F ρ μ => (f F ρ μ).bind fun v μ1 => match isTx v, srcOf v μ1 with
  | false, some s => .ok s.enum μ1
  | _, _ => .bad
section
variable {X : Cx} {XC : Nat → Addr} {F : Fns} {W : WX} {tg e a b c : Expr} {fe : SE} {fa : SA} {pos p tpos : Pos} {elts : List Expr} {kk : Nat}
theorem src_plain {v : EV} {μ : Sto} {s : Src} (h : srcOf v μ = some s) : s.plain = true := by
  unfold srcOf at h
  split at h <;> first | (cases h; rfl) | skip
  · split at h
    · split at h
      · cases h; rfl
      · cases h
    · cases h
  · cases h
theorem src_jr {K : PySem.W.Frag} {Acc : Addr → Prop} {ι : List Addr} {μ μ1 : Sto} {H H1 : Hp} {v : EV} {u : V} {s : Src} (S : Sim K Acc μ ι H) (t1 : Stp K Acc ι μ H ι μ1 H1) (r1 : EvR K (Liv Acc μ1 ι) ι H H1 v u) (es : srcOf v μ1 = some s) :
    (∃ a, u = .ref a ∧ (∃ xs, SqL K H1 a xs) ∧ JR K (Itl K a) s Acc ι μ1 H1) ∨ (∃ a, u = .ref a ∧ (∃ xs, SqT K H1 a xs) ∧ JR K (Itt K a) s Acc ι μ1 H1) ∨ isTx v = true := by
  unfold srcOf at es
  split at es
  · cases es
    rename_i ds
    obtain ⟨a, vs, rfl, tp, rp⟩ := (by simpa only [EvR, Rep] using r1 : ∃ a vs, u = .ref a ∧ TupN K _ H1 a vs ∧ Reps K _ H1 ds vs)
    exact .inr (.inl ⟨a, rfl, ⟨vs, tp.sq⟩, jr_tup tp rp⟩)
  · cases es
    rename_i ds
    obtain ⟨a, vs, rfl, tp, n, rp⟩ := (by simpa only [EvR, Rep] using r1 : ∃ a vs, u = .ref a ∧ H1 a = some (.lst vs) ∧ ¬ Liv Acc μ1 ι a ∧ Reps K _ H1 ds vs)
    exact .inl ⟨a, rfl, ⟨vs, SqL.of tp⟩, jr_still (.inl ⟨.inl tp, n⟩) rp⟩
  · cases es
    rename_i ns
    obtain ⟨a, rfl, tp⟩ := (by simpa only [EvR, Rep] using r1 : ∃ a, u = .ref a ∧ LstN K _ H1 a (ns.map V.int))
    exact .inl ⟨a, rfl, ⟨_, tp.sq⟩, jr_still tp (Reps.ints ns)⟩
  · exact .inr (.inr rfl)
  · cases es
    rename_i ds
    obtain ⟨p, rfl, n, vs, hv, rp⟩ := r1
    have nl : ¬ Liv Acc μ1 ι p := fun z => by
      rcases z with z | z
      · exact S.trk z.mem n
      · exact (S.acc p z).2 n
    exact .inl ⟨p, rfl, ⟨vs, SqL.of hv⟩, jr_still (.inl ⟨.inl hv, nl⟩) rp⟩
  · rename_i k
    obtain ⟨a, ea, rfl⟩ := r1
    cases hc : μ1[k]? with
    | none => rw [hc] at es; cases es
    | some c =>
      rw [hc] at es
      simp only at es
      cases hv : c.val with
      | dic ks ds => rw [hv] at es; cases es
      | dct ks ds => rw [hv] at es; cases es
      | lst ds =>
        rw [hv] at es
        cases es
        obtain ⟨b, e1, r⟩ := t1.sim.cell k c hc
        rw [ea] at e1; cases e1
        rw [hv] at r
        obtain ⟨vs, hl, rp⟩ := r
        exact .inl ⟨a, rfl, ⟨vs, SqL.of hl⟩, jr_cell ea⟩
  · cases es
/-- whatever a thing holds, its enumerated walk -/
theorem rdI_enm {K : PySem.W.Frag} {σ : L2.St} {H : Hp} {R : It → Hp → Prop} (h : rdI K XC F W (iEnm fe) σ H R) :
    rdE K XC F W fe σ H fun v H1 => (∃ a xs, v = .ref a ∧ SqL K H1 a xs ∧ R (Ite K a) H1) ∨ (∃ a xs, v = .ref a ∧ SqT K H1 a xs ∧ R (Itet K a) H1) := by
  obtain ⟨Acc, ι, ρ, μ, S, E, h⟩ := h
  refine ⟨Acc, ι, ρ, μ, S, E, ?_⟩
  unfold iEnm at h
  cases er : fe F ρ μ with
  | bad => rw [er] at h; exact h
  | exc x μ1 => rw [er] at h; exact h
  | ok v μ1 =>
    rw [er] at h
    simp only [Res.bind] at h
    intro u H1 t1 r1
    cases es : srcOf v μ1 with
    | none => rw [es] at h; cases hx : isTx v <;> (rw [hx] at h; exact h.elim)
    | some s =>
      have jr := src_jr S t1 r1.1 es
      have hp := src_plain es
      cases hx : isTx v with
      | true => rw [hx] at h; exact h.elim
      | false =>
        rw [hx, es] at h
        rw [hx] at jr
        rcases jr with ⟨a, rfl, ⟨xs, hq⟩, jr⟩ | ⟨a, rfl, ⟨xs, hq⟩, jr⟩ | jr
        · exact .inl ⟨a, xs, rfl, hq, h _ H1 t1 (jr_enumL hp jr)⟩
        · exact .inr ⟨a, xs, rfl, hq, h _ H1 t1 (jr_enumT hp jr)⟩
        · cases jr
theorem ci_enum (hg : Gl X "enumerate") (hm : X.mg "enumerate" = none) (he : PE X e (rdE X.K XC F W fe)) (hs : starEach [e] X.env = [(false, eval e X.env)] := by rfl) :
    PI X (.Tuple elts kk tpos) (.Call (.Name "enumerate" p) [e] [] pos) (rdI X.K XC F W (iEnm fe)) := by
  refine ⟨fun pins s σ H R I h => ?_⟩
  have h' := rdI_enm h
  have ha := pa_cons he pa_nil (show starEach [e] X.env = (false, eval e X.env) :: starEach [] X.env from hs)
  refine Call_ (ld_blt I hg hm boot_enumerate (PyProof.Rows.callWith_type1 (thn (ha.run pos pins s σ H (fun vs H1 => ∃ x, vs = [x] ∧ ((∃ a xs, x = .ref a ∧ SqL X.K H1 a xs ∧ R (Ite X.K a) H1) ∨ (∃ a xs, x = .ref a ∧ SqT X.K H1 a xs ∧ R (Itet X.K a) H1))) I ?_) fun us s1 ⟨vs, H1, I1, r1, q1⟩ => ?_) hs rfl))
  · obtain ⟨Acc, ι, ρ, μ, S, E, h2⟩ := h'
    exact ⟨Acc, ι, ρ, μ, S, E, wp.imp h2 fun b H' q => ⟨b, rfl, q⟩⟩
  obtain ⟨x, ex, q1⟩ := q1
  subst ex
  obtain ⟨u, rfl, ru⟩ := Vals.one r1
  have fp : ∀ b ∈ [s1.heap.objs.size + 1, s1.heap.objs.size], FpOk X pins H1 b := fun b hb => by
    have e' : b = s1.heap.objs.size + 1 ∨ b = s1.heap.objs.size := by simpa using hb
    have hle : s1.heap.objs.size ≤ b := by
      rcases e' with z | z
      · rw [z]; exact Nat.le_add_right _ _
      · rw [z]; exact Nat.le_refl _
    exact I1.fpOk hle (I1.hok.fresh hle)
  rcases q1 with ⟨a, xs, rfl, hq, q⟩ | ⟨a, xs, rfl, hq, q⟩
  · cases ru
    obtain ⟨its, rv, p', hz⟩ := I1.list hq
    refine call_enumerate_list p'.isList fun h' he hit hsz hk => wpAny_pyIter_enum he ?_
    exact ⟨s1.heap.objs.size + 1, [s1.heap.objs.size + 1, s1.heap.objs.size], _, _, H1, rfl, I1.kept (t' := s1.toks) hk, turn_enum a (s1.heap.objs.size + 1) s1.heap.objs.size, ⟨⟨.none, he⟩, hit, Nat.succ_ne_self _⟩, fp, q⟩
  · cases ru
    obtain ⟨its, rv, p', hz⟩ := I1.tuple hq
    refine vm_enumCall (begins_tuple a its.toArray) p' fun h' he hit hk => wpAny_pyIter_enum he ?_
    exact ⟨s1.heap.objs.size + 1, [s1.heap.objs.size + 1, s1.heap.objs.size], _, _, H1, rfl, I1.kept (t' := s1.toks) hk, turn_enumT a (s1.heap.objs.size + 1) s1.heap.objs.size, ⟨⟨.none, he⟩, ⟨_, hit, rfl, rfl⟩, Nat.succ_ne_self _⟩, fp, q⟩
end

/-! ### dicts -/
def eDict0 : SE := fun _ _ μ => .ok (.new (.dic [] [])) μ
/-- d.get(k, x) -/
def eGet2 (o k x : SE) : SE := fun F ρ μ => (o F ρ μ).bind fun v μ1 => match v.see μ1 with
  | some (.dic _ _) => (k F ρ μ1).bind fun w μ2 => (x F ρ μ2).bind fun u μ3 => match v.see μ3, w.see μ3 with
    | some (.dic ks ds), some kd => match kd.key with
      | some j => match dget ks ds j with
        | some d => .ok (.dat d) μ3
        | none => .ok u μ3
      | none => .bad
    | _, _ => .bad
  | _ => .bad
def eGet1 (o k : SE) : SE := eGet2 o k (eC .non)
/-- d.setdefault(k, x) -/
def eSetd (o k x : SE) : SE := fun F ρ μ => (o F ρ μ).bind fun v μ1 => match v, v.see μ1 with
  | .cel c, some (.dic _ _) => (k F ρ μ1).bind fun w μ2 => (x F ρ μ2).bind fun u μ3 => match u.frz μ3, w.see μ3 with
    | some (d, μ4), some kd => match μ4[c]?, kd.key with
      | some cc, some j => match cc.live, cc.val with
        | true, .dic ks ds => if ndK ks && decide (ks.length < LIM) then match dget ks ds j with
          | some d' => .ok (.dat d') μ4
          | none => .ok (.dat d) (μ4.set c ⟨true, .dic (dput ks ds j d).1 (dput ks ds j d).2⟩) else .bad
        | _, _ => .bad
      | _, _ => .bad
    | _, _ => .bad
  | _, _ => .bad
section
variable {X : Cx} {XC : Nat → Addr} {F : Fns} {W : WX} {o e f : Expr} {fo fe ff : SE} {apos cpos pos : Pos}
theorem c_dict0 : PE X (.Dict [] [] pos) (rdE X.K XC F W eDict0) := PEimp pe_dnewK fun σ H Q ⟨Acc, ι, ρ, μ, S, E, h⟩ p hp =>
  h (.ref p) _ (S.up hp _) ⟨⟨p, rfl, hp, [], .inl upd_same, rfl, Reps.nil⟩, S.ownD (ks := []) (ds := []) (vs := []) hp rfl Reps.nil⟩
theorem EvR.move {K : PySem.W.Frag} {Acc : Addr → Prop} {ι : List Addr} {μ μ1 μ2 : Sto} {H H1 H2 : Hp} {v : EV} {x : V} (t1 : Stp K Acc ι μ H ι μ1 H1) (S : Sim K Acc μ ι H) (t2 : Stp K Acc ι μ1 H1 ι μ2 H2) (h : EvR K (Liv Acc μ1 ι) ι H H1 v x) : EvR K (Liv Acc μ2 ι) ι H H2 v x := EvR.mv t1 S t2 h rfl
theorem c_get2 (hu : X.A.units + 1 < cLine) (ho : PE X o (rdE X.K XC F W fo)) (he : PE X e (rdE X.K XC F W fe)) (hf : PE X f (rdE X.K XC F W ff)) (m : M2 X o "get" apos e f cpos) : PE X (.Call (.Attribute o "get" apos) [e, f] [] cpos) (rdE X.K XC F W (eGet2 fo fe ff)) :=
  PEimp (pe_dget2 hu ho he hf m) fun σ H Q ⟨Acc, ι, ρ, μ, S, E, h⟩ => by
    refine rd.bind (Stp.refl S) E h fun v μ1 x H1 _ t1 r1 h1 => ?_
    cases hs1 : v.see μ1 with
    | none => rw [hs1] at h1; exact h1.elim
    | some d1 =>
      rw [hs1] at h1
      cases d1 <;> try exact h1.elim
      simp only at h1
      obtain ⟨a, vs1, rfl, ha1, _, _⟩ := see_ok t1.sim r1.1 hs1
      refine ⟨a, rfl, .inl ⟨_, ha1⟩, ?_⟩
      refine rd.bind t1 (E.mv t1 S) h1 fun w μ2 y H2 _ t2 r2 h2 => ?_
      have t12 := t1.trans t2
      refine rd.bind t12 (E.mv t12 S) h2 fun u μ3 z H3 _ t3 r3 h3 => ?_
      have t23 := t2.trans t3
      have r1' := EvR.move t1 S t23 r1.1
      have r2' := EvR.move t2 t1.sim t3 r2.1
      cases hs3 : v.see μ3 with
      | none => rw [hs3] at h3; exact h3.elim
      | some d3 =>
        rw [hs3] at h3
        cases d3 <;> try exact h3.elim
        rename_i ks ds
        cases hw : w.see μ3 with
        | none => rw [hw] at h3; exact h3.elim
        | some kd =>
          rw [hw] at h3
          simp only at h3
          cases hk : kd.key with
          | none => rw [hk] at h3; exact h3.elim
          | some j =>
            rw [hk] at h3
            simp only at h3
            obtain ⟨a3, vs, e3, ha, hl, rp⟩ := see_ok t3.sim r1' hs3
            cases e3
            have ey := key_rep hk (see_ok t3.sim r2' hw)
            subst ey
            refine ⟨_, (.inl ⟨_, _, ha, rfl, rfl⟩), ?_⟩
            have hg := val_get (k := j) hl rp
            cases hd : dget ks ds j with
            | some d =>
              rw [hd] at h3 hg
              obtain ⟨vv, e1, rv⟩ := hg
              rw [e1]
              exact h3 vv H3 (t12.trans t3) ⟨rv, trivial⟩
            | none =>
              rw [hd] at h3 hg
              have hg : valV (ks.zip vs) j = none := hg
              rw [hg]
              exact h3 z H3 (t12.trans t3) ⟨EvR.back t12 r3.1, r3.2⟩
theorem c_get1 (hu : X.A.units + 1 < cLine) (ho : PE X o (rdE X.K XC F W fo)) (he : PE X e (rdE X.K XC F W fe)) (m : M1 X o "get" apos e cpos) : PE X (.Call (.Attribute o "get" apos) [e] [] cpos) (rdE X.K XC F W (eGet1 fo fe)) :=
  PEimp (pe_dget1 hu ho he m) fun σ H Q ⟨Acc, ι, ρ, μ, S, E, h⟩ => by
    unfold eGet1 eGet2 at h
    refine rd.bind (Stp.refl S) E h fun v μ1 x H1 _ t1 r1 h1 => ?_
    cases hs1 : v.see μ1 with
    | none => rw [hs1] at h1; exact h1.elim
    | some d1 =>
      rw [hs1] at h1
      cases d1 <;> try exact h1.elim
      simp only at h1
      obtain ⟨a, vs1, rfl, ha1, _, _⟩ := see_ok t1.sim r1.1 hs1
      refine ⟨a, rfl, .inl ⟨_, ha1⟩, ?_⟩
      refine rd.bind t1 (E.mv t1 S) h1 fun w μ2 y H2 _ t2 r2 h2 => ?_
      simp only [eC, Res.bind] at h2
      have t12 := t1.trans t2
      have r1' := EvR.move t1 S t2 r1.1
      cases hs3 : v.see μ2 with
      | none => rw [hs3] at h2; exact h2.elim
      | some d3 =>
        rw [hs3] at h2
        cases d3 <;> try exact h2.elim
        rename_i ks ds
        cases hw : w.see μ2 with
        | none => rw [hw] at h2; exact h2.elim
        | some kd =>
          rw [hw] at h2
          simp only at h2
          cases hk : kd.key with
          | none => rw [hk] at h2; exact h2.elim
          | some j =>
            rw [hk] at h2
            simp only at h2
            obtain ⟨a3, vs, e3, ha, hl, rp⟩ := see_ok t2.sim r1' hs3
            cases e3
            have ey := key_rep hk (see_ok t2.sim r2.1 hw)
            subst ey
            refine ⟨_, (.inl ⟨_, _, ha, rfl, rfl⟩), ?_⟩
            have hg := val_get (k := j) hl rp
            cases hd : dget ks ds j with
            | some d =>
              rw [hd] at h2 hg
              obtain ⟨vv, e1, rv⟩ := hg
              rw [e1]
              exact h2 vv H2 t12 ⟨rv, trivial⟩
            | none =>
              rw [hd] at h2 hg
              have hg : valV (ks.zip vs) j = none := hg
              rw [hg]
              exact h2 V.non H2 t12 ⟨rfl, trivial⟩
theorem c_setd (ho : PE X o (rdE X.K XC F W fo)) (he : PE X e (rdE X.K XC F W fe)) (hf : PE X f (rdE X.K XC F W ff)) (m : M2 X o "setdefault" apos e f cpos) : PE X (.Call (.Attribute o "setdefault" apos) [e, f] [] cpos) (rdE X.K XC F W (eSetd fo fe ff)) :=
  PEimp (pe_dsetd ho he hf m) fun σ H Q ⟨Acc, ι, ρ, μ, S, E, h⟩ => by
    refine rd.bind (Stp.refl S) E h fun v μ1 x H1 _ t1 r1 h1 => ?_
    cases v with
    | dat _ => exact h1.elim
    | new _ => exact h1.elim
    | cel c =>
      cases hs1 : (EV.cel c).see μ1 with
      | none => rw [hs1] at h1; exact h1.elim
      | some d1 =>
        rw [hs1] at h1
        cases d1 <;> try exact h1.elim
        simp only at h1
        obtain ⟨a, vs1, ea, ha1, _, _⟩ := see_ok t1.sim r1.1 hs1
        subst ea
        refine ⟨a, rfl, .inl ⟨_, ha1⟩, ?_⟩
        obtain ⟨a', ek, e'⟩ := r1.1
        cases e'
        refine rd.bind t1 (E.mv t1 S) h1 fun w μ2 y H2 _ t2 r2 h2 => ?_
        have t12 := t1.trans t2
        refine rd.bind t12 (E.mv t12 S) h2 fun u μ3 z H3 _ t3 r3 h3 => ?_
        have r2' := EvR.move t2 t1.sim t3 r2.1
        cases hf : u.frz μ3 with
        | none => rw [hf] at h3; exact h3.elim
        | some p =>
          obtain ⟨d, μ4⟩ := p
          rw [hf] at h3
          cases hw : w.see μ3 with
          | none => rw [hw] at h3; exact h3.elim
          | some kd =>
            rw [hw] at h3
            simp only at h3
            obtain ⟨t4, rd⟩ := frz_ok t3.sim (fun a h => t2.sim.trk h) (fun a h => (t2.sim.acc a h).2) r3.1 hf
            have t14 := (t12.trans t3).trans t4
            cases hc : μ4[c]? with
            | none => rw [hc] at h3; exact h3.elim
            | some cc =>
              rw [hc] at h3
              cases hk : kd.key with
              | none => rw [hk] at h3; exact h3.elim
              | some j =>
                rw [hk] at h3
                simp only at h3
                have ey := key_rep hk (see_ok t3.sim r2' hw)
                subst ey
                cases hl : cc.live with
                | false => rw [hl] at h3; exact h3.elim
                | true =>
                  cases hv : cc.val with
                  | lst _ => rw [hl, hv] at h3; exact h3.elim
                  | dct _ _ => rw [hl, hv] at h3; exact h3.elim
                  | dic ks ds =>
                    rw [hl, hv] at h3
                    simp only at h3
                    obtain ⟨b, eb, rc⟩ := t4.sim.cell c cc hc
                    rw [ek] at eb; cases eb
                    rw [hv] at rc
                    obtain ⟨vs, ha, ll, rp⟩ := rc
                    have ha := ha.elim id fun ⟨o, e⟩ => absurd e (t4.sim.hot _ (.inl ⟨c, cc, hc, hl, ek⟩) o _)
                    split at h3
                    case isFalse => exact h3.elim
                    case isTrue hz =>
                      rw [Bool.and_eq_true, decide_eq_true_eq] at hz
                      have hzl : (ks.zip vs).length < sizeLine := by
                        rw [List.length_zip]
                        have h2 : LIM < sizeLine := by decide
                        have := hz.2
                        omega
                      have hg := val_get (k := j) ll rp
                      cases hd : dget ks ds j with
                      | some d' =>
                        rw [hd] at h3 hg
                        obtain ⟨vv, e1, rv⟩ := hg
                        refine ⟨_, j, ha, rfl, hzl, fun v hv => ?_, fun hn => ?_⟩
                        · rw [e1] at hv
                          cases hv
                          exact h3 vv H3 t14 ⟨rv, trivial⟩
                        · rw [e1] at hn; cases hn
                      | none =>
                        rw [hd] at h3 hg
                        simp only at h3
                        have hg : valV (ks.zip vs) j = none := hg
                        obtain ⟨ws, e1, r1⟩ := val_put (ndK_ok hz.1) ll rp rd
                        refine ⟨_, j, ha, rfl, hzl, fun v hv => ?_, fun _ => ?_⟩
                        · rw [hg] at hv; cases hv
                        · have tp := t4.sim.put (c' := .dic (dput ks ds j d).1 (dput ks ds j d).2) hc hl ek (o := .dK (putK (ks.zip vs) j z)) fun H' m e => ⟨ws, .inl (by rw [e, e1]), dput_len ll, Reps.mv m _ _ r1⟩
                          exact h3 z _ (t14.trans tp) ⟨Rep.mv (tp.mv t4.sim) _ _ rd, trivial⟩
end
end VM
/-! Comprehensions: the rules. -/
namespace VM
open PySem L2 PyProof.Rows
example : asg (.tup [.nm 0, .tup [.nm 1]]) (.tup [.int 1, .tup [.non]]) [none, none] = some [some (.dat (.int 1)), some (.dat .non)] := rfl
section
variable {X : Cx} {XC : Nat → Addr} {F : Fns} {W : WX} {pos spos : Pos} {tg iter elt e : Expr} {ifs : List Expr} {es : List Expr} {x : Str}
theorem t_nm {i : Nat} (hN : X.N.Nodup) (hi : X.N[i]? = some x) (hx : Loc X.env.scope x) (hf : X.fn x = true ∨ X.env.scope.names.lookup x = some .local := by first | exact .inl rfl | exact .inr rfl | assumption) : PG X (.Name x pos) (gT X.K (.nm i)) := by
  simp only [gT]
  exact pg_name hN hi hx hf
theorem t_nil : PGs X [] (gTs X.K []) := by
  simp only [gTs]
  exact pgs_nil
theorem t_cons {t : Tgt} {ts : List Tgt} (h1 : PG X e (gT X.K t)) (h2 : PGs X es (gTs X.K ts)) (hs : (assignEach (e :: es) X.env).map (·.2) = assign e X.env :: (assignEach es X.env).map (·.2) := by rfl) : PGs X (e :: es) (gTs X.K (t :: ts)) := by
  simp only [gTs]
  exact pgs_cons h1 h2 hs
theorem t_tp {k : Nat} {ts : List Tgt} {n : Nat} (hc : X.calm = true) (h : PGs X es (gTs X.K ts)) (hl : ts.length = n := by rfl) (hn : (assignEach es X.env).length = n := by rfl) (hst : (assignEach es X.env).findIdx? (·.1) = none := by rfl) : PG X (.Tuple es k pos) (gT X.K (.tup ts)) := by
  simp only [gT]
  subst hl
  exact pg_tup hc h hn hst
theorem PTsimp {ifs : List Expr} {t t' : TT} (h : PTs X ifs t) (i : ∀ σ H Q, t' σ H Q → t σ H Q) : PTs X ifs t' := ⟨fun pins s σ H Q I q => h.run pins s σ H Q I (i σ H Q q)⟩
theorem q_yes : PTs X [] (rdB X.K XC F W bYes) := PTsimp pts_nil fun σ H Q ⟨Acc, ι, ρ, μ, S, E, h⟩ => h true H (.refl S) rfl
theorem q_one {c : Expr} {fc : SB} (h : PT X c (rdB X.K XC F W fc)) : PTs X [c] (rdB X.K XC F W fc) := pts_one h
theorem c_lc {scope : Scope} {own : List (Str × Nat)} {fi : SI} {t : Tgt} {fc : SB} {fe : SE} {vs : List Nat} (hc : X.calm = true) (hN : X.N.Nodup) (hi : PI X tg iter (rdI X.K XC F W fi)) (ok : BlkOk X.N X.env.scope scope own) (hsl : ∀ i ∈ t.slots, i ∈ vs) (hv : own.map (·.2) = vs)
    (hg : ∀ (s : Shared) (H : Hp) (C : Addr) (cl : List (Str × Addr)) (fp : List Addr), PG (X.blk s H scope (compEnvC scope cl C X.env) fp) tg (gT X.K t))
    (ht : ∀ (s : Shared) (H : Hp) (C : Addr) (cl : List (Str × Addr)) (fp : List Addr), PTs (X.blk s H scope (compEnvC scope cl C X.env) fp) ifs (rdB X.K XC F W0 fc))
    (he : ∀ (s : Shared) (H : Hp) (C : Addr) (cl : List (Str × Addr)) (fp : List Addr), PE (X.blk s H scope (compEnvC scope cl C X.env) fp) elt (rdE X.K XC F W0 fe)) (hs : ∀ x, foldedSetIterable iter X.env x = pure x := by intro _; rfl) :
    PE X (.ListComp elt [⟨tg, iter, ifs, 0⟩] scope pos) (rdE X.K XC F W (eLc fi t fc fe vs)) := by
  subst hv
  exact PEimp (pe_lc hc hN hi ok hg ht he hs) fun σ H Q h => lc_read hsl h
theorem s_lc {i : Nat} {y : Str} {py : Pos} {scope : Scope} {own : List (Str × Nat)} {fi : SI} {t : Tgt} {fc : SB} {fe : SE} {vs : List Nat} (hc : X.calm = true) (hN : X.N.Nodup) (hy : X.N[i]? = some y) (hyl : X.env.scope.names.lookup y = some .local)
    (hsw : swapsWith (.ListComp elt [⟨tg, iter, ifs, 0⟩] scope pos) (some (.Name y py)) spos.line X.env = pure true)
    (hi : PI X tg iter (rdI X.K XC F W fi)) (ok : BlkOk X.N X.env.scope scope own) (hsl : ∀ i ∈ t.slots, i ∈ vs) (hv : own.map (·.2) = vs)
    (hg : ∀ (s : Shared) (H : Hp) (C : Addr) (cl : List (Str × Addr)) (fp : List Addr), PG (X.blk s H scope (compEnvC scope cl C X.env) fp) tg (gT X.K t))
    (ht : ∀ (s : Shared) (H : Hp) (C : Addr) (cl : List (Str × Addr)) (fp : List Addr), PTs (X.blk s H scope (compEnvC scope cl C X.env) fp) ifs (rdB X.K XC F W0 fc))
    (he : ∀ (s : Shared) (H : Hp) (C : Addr) (cl : List (Str × Addr)) (fp : List Addr), PE (X.blk s H scope (compEnvC scope cl C X.env) fp) elt (rdE X.K XC F W0 fe)) (hs : ∀ x, foldedSetIterable iter X.env x = pure x := by intro _; rfl) :
    PS X (.Assign [.Name y py] (.ListComp elt [⟨tg, iter, ifs, 0⟩] scope pos) spos) (rdS X.K XC F W (sSet i (eLc fi t fc fe vs))) := by
  subst hv
  refine PSimp (ps_setLc hc hN hy hyl hsw hi ok hg ht he hs) fun D σ H ⟨Acc, ι, ρ, μ, S, E, h⟩ => ?_
  refine lc_read hsl (rd.stm (Stp.refl S) E h fun v μ1 b H1 t1 r1 h1 => ?_)
  obtain ⟨ι', t', r'⟩ := bnd_ok S t1 r1.1 r1.2
  exact h1 ι' H1 _ t' ((E.mv t' S).set r')
end
end VM
/-! t[::-1] of a tuple. -/
namespace HT
open PySem PySem.Spec PyProof.Rows
section
variable {prog : Program} {w : World} {A : Around} {E : Value → Shared → Prop} {s : Shared}
theorem adjust_rev (n : Nat) : Builtin.Slice.sliceAdjust none none (-1) (n : Int) = ((n : Int) - 1, -1) := by
  have h1 : (-1 : Int) < 0 := by omega
  unfold Builtin.Slice.sliceAdjust
  simp only [h1, if_true]
theorem places_rev (n : Nat) : Builtin.Slice.slicePlaces ((n : Int) - 1) (-1) (-1) = n := by
  unfold Builtin.Slice.slicePlaces
  have h1 : ¬ (-1 : Int) > 0 := by omega
  have e : - (-1 : Int) = 1 := by decide
  simp only [h1, if_false, e, Int.ediv_one]
  split <;> omega
theorem sliceApplied_rev {sl : Addr} {t : Tok} {n : Nat} {Q : Int × Int × Nat → Shared → Prop} (hs : s.heap.IsSliceOf sl .none .none (.int (-1) t))
    (h : Q ((n : Int) - 1, -1, n) s) : wpAny (model prog w) A (Builtin.Slice.sliceApplied (.ref sl) (pure (n : Int))) Q E s := by
  obtain ⟨os, hos, hcs, hds⟩ := id hs
  unfold Builtin.Slice.sliceApplied Builtin.Slice.sliceFields
  refine wpAny_bind (wpAny_bind (wpAny_field hos hds (x := .none) rfl (wpAny_bind (wpAny_field hos hds (x := .none) rfl (wpAny_bind (wpAny_field hos hds (x := .int (-1) t) rfl (wpAny_pure ?_)))))))
  refine wpAny_bind (slicePart_int ?_)
  show wpAny _ _ (if ((-1 : Int) == 0) = true then _ else _) _ _ s
  rw [if_neg (by decide)]
  refine wpAny_bind (slicePart_none (wpAny_bind (slicePart_none (wpAny_bind (wpAny_pure ?_)))))
  show wpAny _ _ (match Builtin.Slice.sliceAdjust none none (-1) (n : Int) with | (lo, hi) => pure (lo, (-1 : Int), Builtin.Slice.slicePlaces lo hi (-1))) _ _ s
  rw [adjust_rev n]
  show wpAny _ _ (pure ((n : Int) - 1, (-1 : Int), Builtin.Slice.slicePlaces ((n : Int) - 1) (-1) (-1))) _ _ s
  rw [places_rev]
  exact wpAny_pure h
theorem fm_map {α β : Type} {f : α → Option β} {g : α → β} : ∀ {l : List α}, (∀ x ∈ l, f x = some (g x)) → l.filterMap f = l.map g
  | [], _ => rfl
  | x :: l, h => by
    rw [List.filterMap_cons, h x List.mem_cons_self, List.map_cons, fm_map fun y hy => h y (List.mem_cons_of_mem _ hy)]
theorem pick_rev (xs : List Value) : ((List.range xs.length).filterMap fun (m : Nat) => xs.toArray[((xs.length : Int) - 1 + (m : Int) * (-1)).toNat]?) = xs.reverse := by
  have key : ∀ m ∈ List.range xs.length, xs.toArray[((xs.length : Int) - 1 + (m : Int) * (-1)).toNat]? = some (xs.reverse[m]?.getD .none) := fun m hm => by
    have hm : m < xs.length := by simpa using hm
    have e : ((xs.length : Int) - 1 + (m : Int) * (-1)).toNat = xs.length - 1 - m := by omega
    have hl : xs.length - 1 - m < xs.length := by omega
    rw [e, List.getElem?_reverse hm, List.getElem?_toArray, List.getElem?_eq_getElem hl]
    rfl
  rw [fm_map key]
  apply List.ext_getElem
  · simp
  · intro i h1 h2
    have hi : i < xs.reverse.length := h2
    rw [List.getElem_map, List.getElem_range, List.getElem?_eq_getElem hi]
    rfl
theorem getItem_tuple_rev {t sl : Addr} {its : List Value} {tk : Tok} {Q : Value → Shared → Prop} (ht : IsTup s.heap t its.toArray) (hs : s.heap.IsSliceOf sl .none .none (.int (-1) tk))
    (h : Q (.ref s.heap.objs.size) { s with heap := s.heap.push { cls := .type "tuple", data := .seq its.reverse.toArray } })
    (hsz : its.length ≤ sizeLine) : wpAny (model prog w) A (getItem (.ref t) (.ref sl)) Q E s := by
  have htake : sizeOk (.seq its.reverse.toArray) := by
    show its.reverse.toArray.size ≤ sizeLine
    rw [List.size_toArray, List.length_reverse]
    exact hsz
  obtain ⟨os, hos, hcs, hds⟩ := id hs
  have hTs : s.TypeIs (.ref sl) "slice" := ⟨os, hos, hcs⟩
  unfold getItem
  try with_reducible refine wpAny_holding ?_
  first | refine wpAny_bind (wpAny_pure ?_) | skip
  refine wpAny_bind (wpAny_sequenceKey ht.typeIs (by decide) ?_)
  refine wpAny_bind (wpAny_callSpecial?_slot (name := Str.ofString "__getitem__") ht.typeIs PyProof.Rows.slot_tuple_getitem
    (wpAny_call_entry PyProof.Rows.slot_tuple_getitem ht.typeIs entry_tuple_getitem ?_ (args_tuple_getitem _ _)))
  show wpAny _ _ (Builtin.Tuple.tupleItemsOf (.ref t) >>= _) _ _ s
  refine wpAny_bind (tupleItemsOf_ ht ?_)
  refine wpAny_bind (wpAny_typeOf hTs ?_)
  rw [if_pos (by decide)]
  refine wpAny_bind (sliceApplied_rev (n := its.toArray.size) hs ?_)
  have hno : ¬ ((((its.toArray.size : Int) - 1) == 0 && (-1 : Int) == 1 && its.toArray.size == its.toArray.size) = true) := by
    intro q
    rw [Bool.and_eq_true, Bool.and_eq_true] at q
    exact absurd (eq_of_beq q.1.2) (by decide)
  show wpAny _ _ (if (((its.toArray.size : Int) - 1) == 0 && (-1 : Int) == 1 && its.toArray.size == its.toArray.size) = true then _ else _) _ _ s
  rw [if_neg hno, List.size_toArray, pick_rev]
  first
    | exact wpAny_bind (m := Builtin.Tuple.tupleExact _) (wpAny_newObj_type (wpAny_pure ⟨_, rfl, wpAny_pure h⟩) htake)
    | exact wpAny_bind (m := Builtin.Tuple.tupleExact _) (wpAny_newObj_type (wpAny_bind (wpAny_pure (wpAny_pure ⟨_, rfl, wpAny_pure h⟩))) htake)
    | exact wpAny_bind (wpAny_bind (m := Builtin.Tuple.tupleExact _) (wpAny_newObj_type (wpAny_pure (wpAny_pure ⟨_, rfl, wpAny_pure h⟩)) htake))
    | exact wpAny_bind (wpAny_bind (m := Builtin.Tuple.tupleExact _) (wpAny_newObj_type (wpAny_pure ⟨_, rfl, wpAny_pure h⟩) htake))
end
end HT
namespace VM
open PySem L2 PyProof.Rows
def tRevT (K : PySem.W.Frag) (te : TE) : TE := fun σ H Q => te σ H fun x H1 => ∃ a xs, x = .ref a ∧ SqT K H1 a xs ∧ ∀ p, H1 p = none → Q (.ref p) (upd H1 p (.tup xs.reverse))
theorem pe_revT {X : Cx} {e : Expr} {te : TE} {k : Nat} {p1 p2 p3 pos : Pos} (he : PE X e te) : PE X (.Subscript e (.Slice none none (some (.UnaryOp .USub (.Constant (.int 1) k p1) p2)) p3) pos) (tRevT X.K te) := by
  refine ⟨fun pins s σ H Q I h => ?_⟩
  refine Subscript_ (thn (he.run pins s σ H _ I h) fun v s1 ⟨x, H1, I1, r1, q1⟩ => ?_)
  obtain ⟨a, xs, ex, hx, q⟩ := q1
  subst ex
  cases r1
  have hst : PO X (some (.UnaryOp .USub (.Constant (.int 1) k p1) p2)) (tPart (tUn (rU fun i => .int (-i)) (tC (.int 1)))) := po_some (pe_un un_neg pe_int)
  refine wpAny_Slice (thn (po_none.run pins s1 σ H1 (fun o H2 => o = none ∧ H2 = H1) I1 ⟨rfl, rfl⟩) fun vl s2 ⟨l, H2, I2, pl, el, e2⟩ => ?_)
  subst el e2
  refine thn (po_none.run pins s2 σ H2 (fun o H3 => o = none ∧ H3 = H2) I2 ⟨rfl, rfl⟩) fun vu s3 ⟨u, H3, I3, pu, eu, e3⟩ => ?_
  subst eu e3
  refine thn (hst.run pins s3 σ H3 (fun o H4 => o = some (-1) ∧ H4 = H3) I3 ⟨1, rfl, -1, rfl, rfl, rfl⟩) fun vs s4 ⟨o, H4, I4, ps, eo, e4⟩ => ?_
  subst eo e4
  cases pl
  cases pu
  obtain ⟨tk, evs⟩ : ∃ tk, vs = .int (-1) tk := by
    cases ps
    exact ⟨_, rfl⟩
  subst evs
  have I5 : Inv X pins σ H4 { s4 with heap := s4.heap.push { cls := .type "slice", data := .fields #[.none, .none, .int (-1) tk] } } := I4.kept (t' := s4.toks) fun b ob q => Heap.get?_push_of_some _ q
  obtain ⟨its, r, ht, hz⟩ := I5.tuple hx
  have hlen := r.length
  show wpAny (model X.prog X.w) X.A (subscriptTail e (.Slice none none (some (.UnaryOp .USub (.Constant (.int 1) k p1) p2)) p3) (.ref a) (.ref s4.heap.objs.size)) (EP X pins σ Q) X.xe { s4 with heap := s4.heap.push { cls := .type "slice", data := .fields #[.none, .none, .int (-1) tk] } }
  refine tail_any (ops := [.ref a, .ref s4.heap.objs.size]) ht.typeIs (PyProof.Rows.slot_tuple_getitem.lookup) ?_ (by with_unfolding_all rfl)
  refine HT.getItem_tuple_rev ht (Heap.IsSliceOf.new _ .none .none (.int (-1) tk)) ?_ (by rw [← hlen]; exact hz)
  refine ⟨.ref _, _, I5.laid (t' := s4.toks) (o := .tup xs.reverse) (fun b ob q => Heap.get?_push_of_some _ q) (Nat.le_refl _) ?_, rfl, q _ (I5.hok.fresh (Nat.le_refl _))⟩
  exact ⟨by rw [List.length_reverse]; exact hz, _, r.reverse, IsTup.new _ _⟩
/-- lists and tuples turned round -/
def eRev (f : SE) : SE := fun F ρ μ => (f F ρ μ).bind fun v μ1 => match v.see μ1 with
  | some (.lst ds) => .ok (.new (.lst ds.reverse)) μ1
  | some (.tup ds) => .ok (.dat (.tup ds.reverse)) μ1
  | _ => .bad
theorem pe_or {X : Cx} {e : Expr} {t t' : TE} (h : PE X e t) (h' : PE X e t') : PE X e (fun σ H Q => t σ H Q ∨ t' σ H Q) := ⟨fun pins s σ H Q I q => q.elim (fun q => h.run pins s σ H Q I q) fun q => h'.run pins s σ H Q I q⟩
section
variable {X : Cx} {XC : Nat → Addr} {F : Fns} {W : WX} {e : Expr} {fe : SE} {k : Nat} {p1 p2 p3 pos : Pos}
theorem c_rev (he : PE X e (rdE X.K XC F W fe)) : PE X (.Subscript e (.Slice none none (some (.UnaryOp .USub (.Constant (.int 1) k p1) p2)) p3) pos) (rdE X.K XC F W (eRev fe)) :=
  PEimp (pe_or (pe_revL he) (pe_revT he)) fun σ H Q ⟨Acc, ι, ρ, μ, S, E, h⟩ => by
    unfold eRev at h
    cases er : fe F ρ μ with
    | bad => rw [er] at h; exact h.elim
    | exc x μ1 => rw [er] at h; exact .inl ⟨Acc, ι, ρ, μ, S, E, by rw [er]; exact h⟩
    | ok v μ1 =>
      rw [er] at h
      simp only [Res.bind] at h
      cases hs : v.see μ1 with
      | none => rw [hs] at h; exact h.elim
      | some d =>
        rw [hs] at h
        cases d <;> try exact h.elim
        · rename_i ds
          refine .inr ⟨Acc, ι, ρ, μ, S, E, ?_⟩
          rw [er]
          intro u H1 t1 r1
          obtain ⟨a, vs, rfl, tp, rp⟩ := seeT (see_ok t1.sim r1.1 hs)
          exact ⟨a, vs, rfl, tp.sq, fun p hp => h (.ref p) _ (t1.trans (t1.sim.up hp _)) ⟨t1.sim.newT hp (Reps.rev rp), trivial⟩⟩
        · rename_i ds
          refine .inl ⟨Acc, ι, ρ, μ, S, E, ?_⟩
          rw [er]
          intro u H1 t1 r1
          obtain ⟨a, vs, rfl, tp, rp⟩ := seeL (see_ok t1.sim r1.1 hs)
          exact ⟨a, vs, rfl, SqL.of tp, fun p hp => h (.ref p) _ (t1.trans (t1.sim.up hp _)) ⟨⟨p, rfl, t1.back hp, t1.sim.newL hp (Reps.rev rp)⟩, t1.sim.ownN hp (Reps.rev rp)⟩⟩
end
end VM
/-! repr of lists and tuples. -/
namespace VM
open PySem L2 PyProof.Rows
mutual
def D.rp : D → PyData
  | .non => .none
  | .bl b => .bool b
  | .int i => .int i
  | .str x => .str x
  | .tup ds => .tuple (rps ds)
  | .lst ds => .list (rps ds)
  | .dic _ _ => .dict []
  | .dct _ _ => .dict []
  | .scr ns => .list (ns.map .int)
def rps : List D → List PyData
  | [] => []
  | d :: ds => d.rp :: rps ds
end
mutual
def D.flat : D → Bool
  | .dic _ _ => false
  | .dct _ _ => false
  | .tup ds => flats ds
  | .lst ds => flats ds
  | _ => true
def flats : List D → Bool
  | [] => true
  | d :: ds => d.flat && flats ds
end
section
variable {X : Cx} {pins : List (Addr × Obj)} {σ : L2.St} {H : Hp} {s : Shared} {L : Addr → Prop}
theorem reads_ints {h : Heap} : ∀ {ns : List Int} {us : List Value}, Vals (ns.map V.int) us → ∃ as, ReadsAll h us (ns.map .int) as
  | [], us, r => by cases r; exact ⟨_, .nil⟩
  | n :: ns, us, r => by
    cases r with
    | cons r t =>
      obtain ⟨k, rfl⟩ := r
      obtain ⟨as, q⟩ := reads_ints t
      exact ⟨_, .cons (.int n k) q⟩
mutual
theorem reads_of (I : Inv X pins σ H s) : ∀ (d : D) (v : V) (u : Value), d.flat = true → Rep X.K L H d v → RelV v u → ∃ as, Reads s.heap u d.rp as
  | .non, v, u, hf, r, ru => by
    have e : v = .non := by simpa only [Rep] using r
    subst e
    have ru : u = .none := ru
    subst ru
    exact ⟨_, by simp only [D.rp]; exact .none⟩
  | .bl b, v, u, hf, r, ru => by
    have e : v = .bl b := by simpa only [Rep] using r
    subst e
    have ru : u = .bool b := ru
    subst ru
    exact ⟨_, by simp only [D.rp]; exact .bool b⟩
  | .int i, v, u, hf, r, ru => by
    have e : v = .int i := by simpa only [Rep] using r
    subst e
    obtain ⟨t, rfl⟩ := ru
    exact ⟨_, by simp only [D.rp]; exact .int i t⟩
  | .str x, v, u, hf, r, ru => by
    have e : v = .str x := by simpa only [Rep] using r
    subst e
    obtain ⟨t, rfl⟩ := ru
    exact ⟨_, by simp only [D.rp]; exact .str x t⟩
  | .tup ds, v, u, hf, r, ru => by
    obtain ⟨a, vs, rfl, tp, rp⟩ := (by simpa only [Rep] using r : ∃ a vs, v = .ref a ∧ TupN X.K L H a vs ∧ Reps X.K L H ds vs)
    obtain rfl : u = .ref a := ru
    obtain ⟨its, rv, ⟨o, h1, h2, n, h3⟩, hz⟩ := I.tuple tp.sq
    obtain ⟨as, q⟩ := readsAll_of I ds vs its (by simpa only [D.flat] using hf) rp rv
    exact ⟨_, by simp only [D.rp]; exact .tuple h1 h2 h3 (by simpa using q)⟩
  | .lst ds, v, u, hf, r, ru => by
    obtain ⟨a, vs, rfl, tp, n, rp⟩ := (by simpa only [Rep] using r : ∃ a vs, v = .ref a ∧ H a = some (.lst vs) ∧ ¬ L a ∧ Reps X.K L H ds vs)
    obtain rfl : u = .ref a := ru
    obtain ⟨its, n, rv, h1, hz⟩ := I.lst tp
    obtain ⟨as, q⟩ := readsAll_of I ds vs its (by simpa only [D.flat] using hf) rp rv
    exact ⟨_, by simp only [D.rp]; exact .list h1 rfl rfl (by simpa using q)⟩
  | .dic _ _, v, u, hf, r, ru => by simp only [D.flat] at hf; cases hf
  | .dct _ _, v, u, hf, r, ru => by simp only [D.flat] at hf; cases hf
  | .scr ns, v, u, hf, r, ru => by
    obtain ⟨a, rfl, tp⟩ := (by simpa only [Rep] using r : ∃ a, v = .ref a ∧ LstN X.K L H a (ns.map V.int))
    obtain rfl : u = .ref a := ru
    obtain ⟨its, rv, p, hz⟩ := I.list tp.sq
    obtain ⟨o, h1, h2, n, h3⟩ := p.isList
    obtain ⟨as, q⟩ := reads_ints (h := s.heap) rv
    exact ⟨_, by simp only [D.rp]; exact .list h1 h2 h3 (by simpa using q)⟩
theorem readsAll_of (I : Inv X pins σ H s) : ∀ (ds : List D) (vs : List V) (us : List Value), flats ds = true → Reps X.K L H ds vs → Vals vs us → ∃ as, ReadsAll s.heap us (rps ds) as
  | [], vs, us, hf, r, ru => by
    rw [r.invN] at ru
    cases ru
    exact ⟨_, by simp only [rps]; exact .nil⟩
  | d :: ds, vs, us, hf, r, ru => by
    obtain ⟨v, rs, rfl, h1, h2⟩ := r.inv
    cases ru with
    | cons ru rr =>
      rename_i u us
      simp only [flats, Bool.and_eq_true] at hf
      obtain ⟨as, q⟩ := reads_of I d v u hf.1 h1 ru
      obtain ⟨bs, p⟩ := readsAll_of I ds rs us hf.2 h2 rr
      exact ⟨_, by simp only [rps]; exact .cons q p⟩
end
mutual
theorem flat_nodict : ∀ d : D, d.flat = true → d.rp.hasDict = false
  | .non, _ => by simp only [D.rp, PyData.hasDict]
  | .bl _, _ => by simp only [D.rp, PyData.hasDict]
  | .int _, _ => by simp only [D.rp, PyData.hasDict]
  | .str _, _ => by simp only [D.rp, PyData.hasDict]
  | .tup ds, h => by simp only [D.rp, PyData.hasDict]; exact flats_nodict ds (by simpa only [D.flat] using h)
  | .lst ds, h => by simp only [D.rp, PyData.hasDict]; exact flats_nodict ds (by simpa only [D.flat] using h)
  | .dic _ _, h => by simp only [D.flat] at h; cases h
  | .dct _ _, h => by simp only [D.flat] at h; cases h
  | .scr ns, _ => by
    simp only [D.rp, PyData.hasDict]
    have z : ∀ ns : List Int, PyData.hasDictAll (ns.map PyData.int) = false := by
      intro ns
      induction ns with
      | nil => simp only [List.map_nil, PyData.hasDictAll]
      | cons n ns ih => rw [List.map_cons]; simp only [PyData.hasDictAll, PyData.hasDict, ih, Bool.or_false]
    exact z ns
theorem flats_nodict : ∀ ds : List D, flats ds = true → PyData.hasDictAll (rps ds) = false
  | [], _ => by simp only [rps, PyData.hasDictAll]
  | d :: ds, h => by
    simp only [flats, Bool.and_eq_true] at h
    simp only [rps, PyData.hasDictAll, flat_nodict d h.1, flats_nodict ds h.2, Bool.or_false]
end
end
def reprOk (d : D) : Bool := d.flat && d.rp.showable && decide (d.rp.depth ≤ 150) && decide (d.rp.shown.length ≤ LIM)
def isSeq : D → Bool
  | .tup _ => true
  | .lst _ => true
  | .scr _ => true
  | _ => false
/-- what repr gives -/
def fRepr : List D → Option EV
  | [.non] => some (.dat (.str "None"))
  | [.bl b] => some (.dat (.str (if b = true then ("True" : Str) else ("False" : Str))))
  | [.int i] => if i.natAbs.log2 < 1920 then some (.dat (.str (toString i))) else none
  | [.str x] => if (reprText x).length ≤ LIM then some (.dat (.str (reprText x))) else none
  | [d] => if isSeq d && reprOk d then some (.dat (.str d.rp.shown)) else none
  | _ => none
def rReprD (K : PySem.W.Frag) : List V → Hp → VK → Prop := fun xs H Q => (∃ (L : Addr → Prop) (d : D) (v : V), xs = [v] ∧ SeeR K L H d v ∧ isSeq d = true ∧ reprOk d = true ∧ Q (.str d.rp.shown) H) ∨
  ∃ (v : V) (x : Str), xs = [v] ∧ Q (.str x) H ∧ ((v = .non ∧ x = "None") ∨ (∃ b : Bool, v = .bl b ∧ x = (if b = true then ("True" : Str) else ("False" : Str))) ∨ (∃ i, v = .int i ∧ i.natAbs.log2 < 1920 ∧ x = toString i) ∨ ∃ y, v = .str y ∧ (reprText y).length ≤ LIM ∧ x = reprText y)
theorem call_reprD {X : Cx} (hG : X.A.guards = some []) (hu : X.A.units + 152 < cLine) : CallR X (.builtin "repr") (rReprD X.K) := by
  intro pins s σ H xs us Q I r h
  rcases h with h | ⟨v, x, rfl, q, h⟩
  rotate_left
  · obtain ⟨u, rfl, ru⟩ := Vals.one r
    rcases h with ⟨rfl, rfl⟩ | ⟨b, rfl, rfl⟩ | ⟨i, rfl, hz, rfl⟩ | ⟨y, rfl, hz, rfl⟩
    · obtain rfl : u = Value.none := ru
      exact PySem.P.repr_of_none ⟨.str _, H, I.tok _, ⟨_, rfl⟩, q⟩
    · obtain rfl : u = Value.bool b := ru
      refine PySem.P.repr_of_bool ⟨.str (if b = true then ("True" : Str) else ("False" : Str)), H, I.tok _, ?_, q⟩
      cases b <;> exact ⟨_, rfl⟩
    · obtain ⟨t, rfl⟩ := (show ∃ t, u = Value.int i t from ru)
      exact PySem.P.repr_of_int hz ⟨.str _, H, I.tok _, ⟨_, rfl⟩, q⟩
    · obtain ⟨t, rfl⟩ := (show ∃ t, u = Value.str y t from ru)
      exact PySem.P.repr_of_str ⟨.str _, H, I.tok _, ⟨_, rfl⟩, q⟩ (lim_ok hz)
  obtain ⟨L, d, v, rfl, rs, hq, hok, q⟩ := h
  obtain ⟨u, rfl, ru⟩ := Vals.one r
  simp only [reprOk, Bool.and_eq_true, decide_eq_true_eq] at hok
  obtain ⟨⟨⟨hf, hs⟩, hd⟩, hz⟩ := hok
  have fin : ∀ a : Addr, (∃ as, Reads s.heap (.ref a) d.rp as) → wpAny (model X.prog X.w) X.A (call (.builtin "repr") [.ref a]) (EP X pins σ Q) X.xe s := fun a ⟨as, rd⟩ =>
    repr_of_reads' rd hs (fun z => by rw [flat_nodict d hf] at z; cases z) hG (by omega) (fun b o e => e) (fun h' t tk hk => ⟨.str d.rp.shown, H, I.kept (t' := tk) hk, ⟨t, rfl⟩, q⟩) (lim_ok hz)
  cases d <;> try (cases hq; done)
  · rename_i ds
    obtain ⟨a, vs, rfl, tp, rp⟩ := seeT rs
    obtain rfl : u = .ref a := ru
    exact fin a (reads_of I (.tup ds) (.ref a) (.ref a) hf (by simp only [Rep]; exact ⟨a, vs, rfl, tp, rp⟩) rfl)
  · rename_i ds
    obtain ⟨a, vs, rfl, tp, rp⟩ := seeL rs
    obtain rfl : u = .ref a := ru
    refine fin a ?_
    obtain ⟨its, n, rv, h1, _⟩ := I.lst tp
    obtain ⟨as, q⟩ := readsAll_of I ds vs its (by simpa only [D.flat] using hf) rp rv
    exact ⟨_, by simp only [D.rp]; exact .list h1 rfl rfl (by simpa using q)⟩
  · rename_i ns
    obtain ⟨a, rfl, tp⟩ := (by simpa only [SeeR, Rep] using rs : ∃ a, v = .ref a ∧ LstN X.K L H a (ns.map V.int))
    obtain rfl : u = .ref a := ru
    exact fin a (reads_of I (.scr ns) (.ref a) (.ref a) hf (by simp only [Rep]; exact ⟨a, rfl, tp⟩) rfl)
theorem on_repr {K : PySem.W.Frag} : OpN K fRepr (rReprD K) := by
  intro Acc ι μ H ds xs e Q S r h q
  cases ds with
  | nil => cases h
  | cons d t =>
    cases t with
    | cons _ _ => simp [fRepr] at h
    | nil =>
      obtain ⟨v, rs, rfl, h1, h2⟩ := r
      have h2 : rs = [] := h2
      subst h2
      have seq : isSeq d = true → (if isSeq d && reprOk d then some (EV.dat (.str d.rp.shown)) else none) = some e → rReprD K [v] H Q := fun _ h => by
        split at h
        case isFalse => cases h
        case isTrue hz =>
          cases h
          rw [Bool.and_eq_true] at hz
          exact .inl ⟨_, d, v, rfl, h1, hz.1, hz.2, q _ H (.refl S) ⟨rfl, trivial⟩⟩
      have sca : ∀ x : Str, e = .dat (.str x) → Q (.str x) H := fun x z => by subst z; exact q _ H (.refl S) ⟨rfl, trivial⟩
      cases d with
      | non => cases h; exact .inr ⟨v, _, rfl, sca _ rfl, .inl ⟨seeN h1, rfl⟩⟩
      | bl b => cases h; exact .inr ⟨v, _, rfl, sca _ rfl, .inr (.inl ⟨b, seeB h1, rfl⟩)⟩
      | int i =>
        simp only [fRepr] at h
        split at h
        case isFalse => cases h
        case isTrue hz => cases h; exact .inr ⟨v, _, rfl, sca _ rfl, .inr (.inr (.inl ⟨i, seeI h1, hz, rfl⟩))⟩
      | str x =>
        simp only [fRepr] at h
        split at h
        case isFalse => cases h
        case isTrue hz => cases h; exact .inr ⟨v, _, rfl, sca _ rfl, .inr (.inr (.inr ⟨x, seeS h1, hz, rfl⟩))⟩
      | tup _ => exact seq rfl h
      | lst _ => exact seq rfl h
      | scr _ => exact seq rfl h
      | dic _ _ => simp only [fRepr, isSeq, Bool.false_and] at h; cases h
      | dct _ _ => simp only [fRepr, isSeq, Bool.false_and] at h; cases h
end VM
/-! sorted: lists of tuples of ints, of any lengths. -/
namespace VM
open PySem PySem.W L2 PyProof.Rows
open HT (lexLt)
theorem lex_asym : ∀ a b : List Int, lexLt a b = true → lexLt b a = false
  | [], [], h => by cases h
  | [], _ :: _, _ => rfl
  | _ :: _, [], h => by cases h
  | x :: xs, y :: ys, h => by
    rw [HT.lexLt_cons] at h ⊢
    by_cases e : x = y
    · subst e
      rw [if_pos rfl] at h ⊢
      exact lex_asym xs ys h
    · rw [if_neg e, decide_eq_true_eq] at h
      rw [if_neg (Ne.symm e)]
      exact decide_eq_false (by omega)
theorem lex_tr : ∀ a b c : List Int, lexLt b a = false → lexLt c b = false → lexLt c a = false
  | [], [], [], _, _ => rfl
  | [], [], _ :: _, _, _ => rfl
  | [], _ :: _, [], _, _ => rfl
  | [], _ :: _, _ :: _, _, _ => rfl
  | _ :: _, [], _, h, _ => by cases h
  | _ :: _, _ :: _, [], _, h => by cases h
  | x :: xs, y :: ys, z :: zs, h1, h2 => by
    rw [HT.lexLt_cons] at h1 h2 ⊢
    by_cases e1 : y = x
    · by_cases e2 : z = y
      · rw [if_pos e1] at h1
        rw [if_pos e2] at h2
        rw [if_pos (e2.trans e1)]
        exact lex_tr xs ys zs h1 h2
      · rw [if_neg e2] at h2
        have h2 := of_decide_eq_false h2
        rw [if_neg (by omega)]
        exact decide_eq_false (by omega)
    · rw [if_neg e1] at h1
      have h1 := of_decide_eq_false h1
      by_cases e2 : z = y
      · rw [if_neg (by omega)]
        exact decide_eq_false (by omega)
      · rw [if_neg e2] at h2
        have h2 := of_decide_eq_false h2
        rw [if_neg (by omega)]
        exact decide_eq_false (by omega)
theorem lex_eq : ∀ a b : List Int, lexLt a b = false → lexLt b a = false → a = b
  | [], [], _, _ => rfl
  | [], _ :: _, h, _ => by cases h
  | _ :: _, [], _, h => by cases h
  | x :: xs, y :: ys, h1, h2 => by
    rw [HT.lexLt_cons] at h1 h2
    by_cases e : x = y
    · subst e
      rw [if_pos rfl] at h1 h2
      rw [lex_eq xs ys h1 h2]
    · rw [if_neg e] at h1
      rw [if_neg (Ne.symm e)] at h2
      have h1 := of_decide_eq_false h1
      have h2 := of_decide_eq_false h2
      omega
theorem lex_swo (k : Value → List Int) : SrtO.Swo fun v u => lexLt (k v) (k u) := ⟨fun x y h => lex_asym _ _ h, fun x y z h1 h2 => lex_tr _ _ _ h1 h2⟩
section
variable {prog : Program} {w : World} {A : Around} {E : Value → Shared → Prop} {s : Shared}
theorem zip_lex {b : Bool} {Q : Bool → Shared → Prop} : ∀ (us vs : List Value) (ns ms : List Int) (i : Nat), IntsAre us ns → IntsAre vs ms → Q (lexLt ns ms) s → KatLex prog w A b (decide (us.length < vs.length)) Q (us.zip vs) i s
  | [], [], _, _, i, h1, h2, q => by
    cases h1; cases h2
    exact kat_nil q
  | [], _ :: _, _, _, i, h1, h2, q => by
    cases h1; cases h2
    exact kat_nil (by rw [decide_eq_true (by simp)]; exact q)
  | _ :: _, [], _, _, i, h1, h2, q => by
    cases h1; cases h2
    exact kat_nil (by rw [decide_eq_false (by simp)]; exact q)
  | u :: us, v :: vs, _, _, i, h1, h2, q => by
    cases h1 with
    | cons x t h1 =>
      cases h2 with
      | cons y t' h2 =>
        rw [HT.lexLt_cons] at q
        rw [List.zip_cons_cons]
        refine kat_cons (SeqAt.EqAt.int_int x t y t' prog w _ _ (kat_go (fun e => ?_) (fun e => ?_)))
        · have e : x = y := by simpa using e
          rw [if_pos e] at q
          refine kat_yes ?_
          have := zip_lex (b := b) us vs _ _ (i + 1) h1 h2 q
          rw [show decide ((Value.int x t :: us).length < (Value.int y t' :: vs).length) = decide (us.length < vs.length) from by simp]
          exact this
        · have e : ¬ x = y := by simpa using e
          rw [if_neg e] at q
          exact kat_no (oneLt_any_int q)
def TupsF (h : Heap) : List Value → List (Option Value) → Prop
  | [], [] => True
  | v :: vs, f :: fs => (∃ a o xs n, v = .ref a ∧ h.get? a = some o ∧ o.cls = .type "tuple" ∧ o.data = .seq xs n ∧ xs[0]? = f) ∧ TupsF h vs fs
  | _, _ => False
theorem firsts_any {M : Model} : ∀ (vs : List Value) (fs : List (Option Value)) {Q : List (Option Value) → Shared → Prop}, TupsF s.heap vs fs → Q fs s → wpAny M A (vs.mapM firstOfTuple') Q E s
  | [], [], _, _, h => by rw [List.mapM_nil]; exact wpAny_pure h
  | [], _ :: _, _, t, _ => t.elim
  | _ :: _, [], _, t, _ => t.elim
  | v :: vs, f :: fs, Q, t, h => by
    obtain ⟨⟨a, o, xs, n, rfl, ho, hc, hd, hf⟩, t⟩ := t
    rw [List.mapM_cons, kas_first_eq]
    refine wpAny_bind (wpAny_bind (Looks.here (show Looks M s.heap (typeOf (.ref a)) o.cls from (Looks.ld ho).andThen .now) ?_))
    rw [hc, if_neg (by first | decide | simp)]
    refine wpAny_bind (listItems_at ho hd (wpAny_pure ?_))
    rw [hf]
    exact wpAny_bind (firsts_any vs fs (Q := fun bs s' => wpAny M A (pure (f :: bs)) Q E s') t (wpAny_pure h))
theorem tupsF_of {h : Heap} {k : Value → List Int} : ∀ {vs : List Value}, (∀ v ∈ vs, TS.TupInts h v (k v)) → ∃ fs, TupsF h vs fs ∧ ∀ f ∈ fs, ∀ x, f = some x → ∃ i t, x = Value.int i t
  | [], _ => ⟨[], trivial, fun f hf => by simp at hf⟩
  | v :: vs, hv => by
    obtain ⟨a, xs, rfl, ⟨o, ho, hc, n, hd⟩, hi⟩ := hv v List.mem_cons_self
    obtain ⟨fs, h1, h2⟩ := tupsF_of fun u hu => hv u (List.mem_cons_of_mem _ hu)
    refine ⟨xs[0]? :: fs, ⟨⟨a, o, xs, n, rfl, ho, hc, hd, rfl⟩, h1⟩, fun f hf x e => ?_⟩
    rcases List.mem_cons.mp hf with rfl | hf
    · obtain ⟨l⟩ := xs
      cases l with
      | nil => simp at e
      | cons y l =>
        have e : y = x := by simpa using e
        subst e
        generalize k (Value.ref a) = ns at hi
        cases hi with
        | cons i t _ => exact ⟨_, _, rfl⟩
    · exact h2 f hf x e
theorem katTups_of {h : Heap} : ∀ {vs : List Value} {fs : List (Option Value)}, TupsF h vs fs → (fs.all fun x => x.isSome) = true → KatTups h vs (fs.filterMap id)
  | [], [], _, _ => trivial
  | [], _ :: _, t, _ => t.elim
  | _ :: _, [], t, _ => t.elim
  | v :: vs, f :: fs, t, hall => by
    rw [List.all_cons, Bool.and_eq_true] at hall
    cases f with
    | none => cases hall.1
    | some x => exact ⟨t.1, katTups_of t.2 hall.2⟩
theorem tup_at {v : Value} {ns : List Int} (h : TS.TupInts s.heap v ns) : ∃ a o xs n, v = .ref a ∧ s.heap.get? a = some o ∧ o.cls = .type "tuple" ∧ o.data = .seq xs n ∧ IntsAre xs.toList ns := by
  obtain ⟨a, xs, rfl, ⟨o, ho, hc, n, hd⟩, hi⟩ := h
  exact ⟨a, o, xs, n, rfl, ho, hc, hd, hi⟩
theorem lt_tuples {v u : Value} {ns ms : List Int} {b : Bool} {Q : Bool → Shared → Prop} (hv : TS.TupInts s.heap v ns) (hw : TS.TupInts s.heap u ms) (q : Q (lexLt ns ms) s) : wpAny (model prog w) A (keyLt' (tuples' b) v u) Q (fun _ _ => False) s := by
  obtain ⟨a, o, xs, n, rfl, ho, hc, hd, hi⟩ := tup_at hv
  obtain ⟨a2, o2, xs2, n2, rfl, ho2, hc2, hd2, hi2⟩ := tup_at hw
  refine kat_lt ho hd ho2 hd2 ?_
  rw [← Array.length_toList, ← Array.length_toList]
  exact zip_lex _ _ _ _ 0 hi hi2 q
theorem lt_general {v u : Value} {ns ms : List Int} {Q : Bool → Shared → Prop} (hu : A.units < cLine) (hv : TS.TupInts s.heap v ns) (hw : TS.TupInts s.heap u ms) (q : Q (lexLt ns ms) s) : wpAny (model prog w) A (keyLt' general' v u) Q (fun _ _ => False) s := by
  obtain ⟨a, xs, rfl, t, hi⟩ := hv
  obtain ⟨a2, xs2, rfl, t2, hi2⟩ := hw
  show wpAny (model prog w) A (oneLt' false (.ref a) (.ref a2)) Q (fun _ _ => False) s
  exact kat_one _ _ (HT.lt_tupInts t t2 hi hi2 hu q)
theorem lt_one {v u : Value} {ns ms : List Int} {Q : Bool → Shared → Prop} (hu : A.units < cLine) (hv : TS.TupInts s.heap v ns) (hw : TS.TupInts s.heap u ms) (q : Q (lexLt ns ms) s) : wpAny (model prog w) A (keyLt' oneType' v u) Q (fun _ _ => False) s := by
  obtain ⟨a, xs, rfl, ⟨⟨cls, dd, data, sl⟩, ho, hc, n, hd⟩, hi⟩ := hv
  obtain ⟨a2, xs2, rfl, ⟨⟨cls2, dd2, data2, sl2⟩, ho2, hc2, n2, hd2⟩, hi2⟩ := hw
  simp only at hc hd hc2 hd2
  subst hc hd hc2 hd2
  rw [keyLt'_oneType, oneLt'_eq]
  simp only [if_true]
  refine wpAny_bind (wpAny_cRoomFor hu ?_)
  refine wpAny_bind (wpAny_callSpecialIfBound?_slot ⟨_, ho, rfl⟩ PySem.F.slot_tuple_lt (call_meets PySem.F.slot_tuple_lt ⟨_, ho, rfl⟩ PySem.F.entry_tuple_lt (PySem.F.args_tuple_lt_2 _ _) (HT.tuple_lt_ints a a2 xs xs2 n n2 dd dd2 sl sl2 ns ms hi hi2) ⟨ho, ho2, ?_⟩))
  exact wpAny_truthy_bool q
end

section
variable {prog : Program} {w : World} {A : Around} {s : Shared}
theorem kind_tuples {vs : List Value} {k : Value → List Int} (h2 : 0 < vs.length) (hu : A.units < cLine) (hv : ∀ v ∈ vs, TS.TupInts s.heap v (k v)) : ∃ κ,
    (∀ (Q : SortKind → Shared → Prop) (E : Value → Shared → Prop), Q κ s → wpAny (model prog w) A (keyKind' vs.toArray) Q E s) ∧ SrtO.Cmp prog w A s κ (fun p => p.1 ∈ vs) (SrtO.lt2 fun v u => lexLt (k v) (k u)) := by
  obtain ⟨fs, tf, hf⟩ := tupsF_of hv
  by_cases hall : (fs.all fun x => x.isSome) = true
  · refine ⟨tuples' true, fun Q E q => ?_, fun p r hp hr => lt_tuples (hv _ hp) (hv _ hr) ⟨rfl, rfl⟩⟩
    have kt := katTups_of tf hall
    have hl : 0 < (fs.filterMap id).length := by
      cases vs with
      | nil => simp at h2
      | cons v vs =>
        cases fs with
        | nil => exact tf.elim
        | cons f fs =>
          rw [List.all_cons, Bool.and_eq_true] at hall
          cases f with
          | none => cases hall.1
          | some x => simp
    refine kat_kind (T := .type "int") kt hl (fun f hm => ?_) (by rfl) ?_
    · obtain ⟨o, ho, e⟩ := List.mem_filterMap.mp hm
      obtain ⟨i, t, rfl⟩ := hf o ho f e
      exact PySem.W.Looks.now
    · have e : (Value.type "int" != Value.type "tuple") = true := by first | decide +kernel | rfl | decide
      rw [e]
      exact q
  · have hall2 : ¬ (fs.toArray.all fun x => x.isSome) = true := by simpa using hall
    by_cases h0 : ((fs.toArray[0]?).bind id).isSome = true
    · refine ⟨general', fun Q E q => ?_, fun p r hp hr => lt_general hu (hv _ hp) (hv _ hr) ⟨rfl, rfl⟩⟩
      rw [kat_kind_eq, List.mapM_toArray, map_eq_pure_bind]
      refine wpAny_bind (wpAny_bind (firsts_any vs _ tf (wpAny_pure ?_)))
      rw [if_neg hall2, if_pos h0]
      exact wpAny_pure q
    · refine ⟨oneType', fun Q E q => ?_, fun p r hp hr => lt_one hu (hv _ hp) (hv _ hr) ⟨rfl, rfl⟩⟩
      rw [kat_kind_eq, List.mapM_toArray, map_eq_pure_bind]
      refine wpAny_bind (wpAny_bind (firsts_any vs _ tf (wpAny_pure ?_)))
      rw [if_neg hall2, if_neg h0]
      rw [oneTypeOnly'_eq, List.mapM_toArray, map_eq_pure_bind]
      refine wpAny_bind (wpAny_bind (wpAny_bind (kas_mapM (r := Value.type "tuple") _ (fun v hm Q' hq => ?_) (wpAny_pure ?_))))
      · obtain ⟨a, o, xs, n, rfl, ho, hc, _, _⟩ := tup_at (hv v hm)
        have lk : Looks (model prog w) s.heap (typeOf (.ref a)) o.cls := (Looks.ld ho).andThen .now
        rw [hc] at lk
        exact lk.here hq
      · obtain ⟨v, vr, rfl⟩ : ∃ v vr, vs = v :: vr := by
          cases vs with
          | nil => simp at h2
          | cons v vr => exact ⟨v, vr, rfl⟩
        have h00 : (List.map (fun _ => Value.type "tuple") (v :: vr)).toArray[0]? = some (Value.type "tuple") := by simp
        have ha : ((List.map (fun _ => Value.type "tuple") (v :: vr)).toArray.all fun x => x == Value.type "tuple") = true := by
          simp only [List.all_toArray, List.all_map, List.all_eq_true]
          intro _ _
          rfl
        rw [h00]
        simp only [ha, if_true]
        exact wpAny_pure (wpAny_pure q)
theorem tuples_sortable {a : Addr} {vs : List Value} {k : Value → List Int} (h2 : 0 < vs.length) (hu : A.units < cLine) (hv : ∀ v ∈ vs, TS.TupInts s.heap v (k v)) (ha : ∀ o, s.heap.get? a = some o → o.cls ≠ .type "tuple") :
    SrtO.SortableO prog w A s a vs fun v u => lexLt (k v) (k u) := by
  intro h' keep
  refine kind_tuples (s := { s with heap := h' }) h2 hu fun v hm => ?_
  obtain ⟨b, xs, e, ⟨o, ho, hc, hd⟩, hi⟩ := hv v hm
  exact ⟨b, xs, e, ⟨o, keep b o (fun z => by subst z; exact ha o ho hc) ho, hc, hd⟩, hi⟩
end
/-- sorted(xs), xs a list of tuples of ints, any number of them, of any lengths -/
def rSortT (K : PySem.W.Frag) : List V → Hp → VK → Prop := fun vs H Q => ∃ (a : Addr) (xs : List V), vs = [V.ref a] ∧ SqL K H a xs ∧ (∀ x ∈ xs, ∃ ns, TupI K H x ns) ∧
  ∀ (ys : List V) (p : Addr), (∀ x n m, TupI K H x n → TupI K H x m → n = m) → ys.Perm xs → ys.Pairwise (fun x y => ∀ n m, TupI K H x n → TupI K H y m → lexLt m n = false) → H p = none → Q (.ref p) (upd H p (.lst ys))
theorem call_sortT {X : Cx} (hu : X.A.units + 64 < cLine) : CallR X (.builtin "sorted") (rSortT X.K) := by
  intro pins s σ H vs us Q I r h
  obtain ⟨a, xs, rfl, hs, hx, q⟩ := h
  obtain ⟨its, rv, hl, hz⟩ := I.list hs
  obtain ⟨u, rfl, ru⟩ := vals1 r
  obtain rfl : u = Value.ref a := ru
  obtain ⟨e1, e2⟩ := refs_back rv fun x m => by
    obtain ⟨ns, t, e, _⟩ := hx x m
    exact ⟨t, e⟩
  have hT : ∀ v ∈ its, TS.TupInts s.heap v (TS.intsOf s.heap v) := fun v hm => by
    obtain ⟨t, rfl⟩ := e2 v hm
    have hm' : V.ref t ∈ xs := by rw [e1]; exact List.mem_map.mpr ⟨_, hm, rfl⟩
    obtain ⟨ns, t', e, ht⟩ := hx _ hm'
    cases e
    have z := tupI_raw I ht
    rw [z.ints]
    exact z
  refine SrtO.sorted_ord (lex_swo (TS.intsOf s.heap)) hl.isList (by rw [← rv.length]; exact hz) (fun h2 h₁ b hb kk => ?_) fun out h1 h2 => ?_
  · refine tuples_sortable (s := { s with heap := h₁ }) (by omega) (by show X.A.units + 1 + 1 < cLine; omega) (fun v hm => ?_) fun o e => ?_
    · obtain ⟨c, xs2, e, ⟨o, ho, hc, hd⟩, hi⟩ := hT v hm
      exact ⟨c, xs2, e, ⟨o, (kk c o ho).2, hc, hd⟩, hi⟩
    · have e' : some o = some (seqObj "list" its.toArray 0) := e.symm.trans hb
      cases e'
      intro c
      exact absurd (Value.type.inj c) (by decide)
  · have h3 : ∀ u ∈ out, ∃ a, u = Value.ref a := fun u hu => e2 u (h2.perm.mem_iff.mp hu)
    obtain ⟨n, hn⟩ := sortedAll_at s.heap its out.toArray
    have hp : (out.map backV).Perm xs := by
      rw [e1]
      exact h2.perm.map backV
    refine ⟨.ref _, upd H (s.heap.objs.size + 1) (.lst (out.map backV)), I.laid (t' := s.toks) (fun _ _ => sortedAll_old) (Nat.le_succ _) ⟨?_, out, n, vals_back h3, hn⟩, rfl, q _ _ (fun x n m h1 h2 => ?_) hp ?_ (I.hok.fresh (Nat.le_succ _))⟩
    · rw [hp.length_eq]
      exact hz
    · obtain ⟨t, rfl, z1⟩ := h1
      obtain ⟨t', e, z2⟩ := h2
      cases e
      exact (tupI_raw I z1).ints.symm.trans (tupI_raw I z2).ints
    · rw [List.pairwise_map]
      refine List.Pairwise.imp_of_mem (fun {u v} hu hv huv n m hn hm => ?_) h1
      obtain ⟨t, rfl⟩ := h3 u hu
      obtain ⟨t', rfl⟩ := h3 v hv
      obtain ⟨t1, e, ht⟩ := hn
      obtain ⟨t2, e', ht'⟩ := hm
      cases e
      cases e'
      have z1 := (tupI_raw I ht).ints
      have z2 := (tupI_raw I ht').ints
      rw [← z1, ← z2]
      exact huv

/-! ### on trees -/
def insL (x : List Int) : List (List Int) → List (List Int)
  | [] => [x]
  | y :: ys => if lexLt y x then y :: insL x ys else x :: y :: ys
def sortL : List (List Int) → List (List Int)
  | [] => []
  | x :: xs => insL x (sortL xs)
theorem insL_perm (x : List Int) : ∀ l, (insL x l).Perm (x :: l)
  | [] => .refl _
  | y :: ys => by
    unfold insL
    split
    · exact ((insL_perm x ys).cons y).trans (.swap x y ys)
    · exact .refl _
theorem sortL_perm : ∀ l, (sortL l).Perm l
  | [] => .refl _
  | x :: xs => by
    unfold sortL
    exact (insL_perm x _).trans ((sortL_perm xs).cons x)
abbrev SrtL (l : List (List Int)) : Prop := l.Pairwise fun a b => HT.lexLt b a = false
theorem insL_srt (x : List Int) : ∀ l, SrtL l → SrtL (insL x l)
  | [], _ => List.pairwise_singleton _ _
  | y :: ys, h => by
    obtain ⟨h1, h2⟩ := List.pairwise_cons.mp h
    unfold insL
    by_cases c : lexLt y x = true
    · rw [if_pos c]
      refine List.pairwise_cons.mpr ⟨fun z hz => ?_, insL_srt x ys h2⟩
      rcases List.mem_cons.mp ((insL_perm x ys).mem_iff.mp hz) with rfl | hz
      · exact lex_asym _ _ c
      · exact h1 z hz
    · rw [if_neg c]
      have c' : lexLt y x = false := by simpa using c
      refine List.pairwise_cons.mpr ⟨fun z hz => ?_, h⟩
      rcases List.mem_cons.mp hz with rfl | hz
      · exact c'
      · exact lex_tr _ _ _ c' (h1 z hz)
theorem sortL_srt : ∀ l, SrtL (sortL l)
  | [] => List.Pairwise.nil
  | x :: xs => insL_srt x _ (sortL_srt xs)
theorem srt_uniq : ∀ {l m : List (List Int)}, SrtL l → SrtL m → l.Perm m → l = m
  | [], m, _, _, p => by rw [List.Perm.nil_eq p]
  | x :: l, [], _, _, p => absurd p.symm.nil_eq (by simp)
  | x :: l, y :: m, h1, h2, p => by
    obtain ⟨a1, a2⟩ := List.pairwise_cons.mp h1
    obtain ⟨b1, b2⟩ := List.pairwise_cons.mp h2
    have e : x = y := by
      have c1 : lexLt y x = false := by
        rcases List.mem_cons.mp (p.mem_iff.mpr (List.mem_cons_self (a := y) (l := m))) with e | hy
        · rw [e]; exact (lex_swo (fun _ => x)).refl .none
        · exact a1 y hy
      have c2 : lexLt x y = false := by
        rcases List.mem_cons.mp (p.mem_iff.mp (List.mem_cons_self (a := x) (l := l))) with e | hy
        · rw [e]; exact (lex_swo (fun _ => y)).refl .none
        · exact b1 x hy
      exact lex_eq _ _ c2 c1
    subst e
    rw [srt_uniq a2 b2 p.cons_inv]
def intsD : List D → Option (List Int)
  | [] => some []
  | .int i :: ds => (intsD ds).map (i :: ·)
  | _ :: _ => none
def tupsD : List D → Option (List (List Int))
  | [] => some []
  | .tup es :: ds => match intsD es, tupsD ds with
    | some n, some r => some (n :: r)
    | _, _ => none
  | _ :: _ => none
def ofTup (ns : List Int) : D := .tup (ns.map .int)
theorem intsD_eq : ∀ {ds : List D} {ns : List Int}, intsD ds = some ns → ds = ns.map .int
  | [], ns, h => by cases h; rfl
  | d :: ds, ns, h => by
    cases d <;> simp only [intsD, reduceCtorEq] at h
    cases e : intsD ds with
    | none => rw [e] at h; cases h
    | some m =>
      rw [e] at h
      cases h
      rw [intsD_eq e]; rfl
theorem tupsD_eq : ∀ {ds : List D} {ns : List (List Int)}, tupsD ds = some ns → ds = ns.map ofTup
  | [], ns, h => by cases h; rfl
  | d :: ds, ns, h => by
    cases d <;> simp only [tupsD, reduceCtorEq] at h
    rename_i es
    cases e1 : intsD es with
    | none => rw [e1] at h; simp at h
    | some n =>
      cases e2 : tupsD ds with
      | none => rw [e1, e2] at h; simp at h
      | some r =>
        rw [e1, e2] at h
        simp only at h
        cases h
        rw [tupsD_eq e2, intsD_eq e1]; rfl
def fSorted : List D → Option EV
  | [.lst ds] => if ds.length ≤ LIM then (tupsD ds).map fun n => .new (.lst ((sortL n).map ofTup)) else none
  | _ => none
section
variable {K : PySem.W.Frag} {L : Addr → Prop} {H : Hp}
theorem rep_tupI {ns : List Int} {v : V} (r : Rep K L H (ofTup ns) v) : TupI K H v ns := by
  obtain ⟨a, vs, rfl, tp, rp⟩ := (by simpa only [ofTup, Rep] using r : ∃ a vs, v = .ref a ∧ TupN K L H a vs ∧ Reps K L H (ns.map D.int) vs)
  refine ⟨a, rfl, ?_⟩
  have : vs = ns.map V.int := by
    clear tp r
    induction ns generalizing vs with
    | nil => exact rp.invN
    | cons n ns ih =>
      obtain ⟨v, rs, rfl, h1, h2⟩ := rp.inv
      have : v = .int n := by simpa only [Rep] using h1
      rw [this, ih rs h2]; rfl
  rw [← this]
  exact tp.sq
theorem reps_all {ns : List (List Int)} {vs : List V} (r : Reps K L H (ns.map ofTup) vs) : ∀ x ∈ vs, ∃ n, TupI K H x n ∧ Rep K L H (ofTup n) x := by
  induction ns generalizing vs with
  | nil => rw [r.invN]; intro x hx; simp at hx
  | cons n ns ih =>
    obtain ⟨v, rs, rfl, h1, h2⟩ := r.inv
    intro x hx
    rcases List.mem_cons.mp hx with rfl | hx
    · exact ⟨n, rep_tupI h1, h1⟩
    · exact ih h2 x hx
theorem reps_fun {f : V → List Int} (hf : ∀ x n, TupI K H x n → f x = n) {ns : List (List Int)} {vs : List V} (r : Reps K L H (ns.map ofTup) vs) : vs.map f = ns := by
  induction ns generalizing vs with
  | nil => rw [r.invN]; rfl
  | cons n ns ih =>
    obtain ⟨v, rs, rfl, h1, h2⟩ := r.inv
    rw [List.map_cons, hf v n (rep_tupI h1), ih h2]
theorem of_fun {f : V → List Int} : ∀ {vs : List V}, (∀ x ∈ vs, Rep K L H (ofTup (f x)) x) → Reps K L H ((vs.map f).map ofTup) vs
  | [], _ => Reps.nil
  | v :: vs, h => Reps.cons (h v List.mem_cons_self) (of_fun fun x hx => h x (List.mem_cons_of_mem _ hx))
end
theorem on_sorted {K : PySem.W.Frag} : OpN K fSorted (rSortT K) := by
  intro Acc ι μ H ds xs e Q S r h q
  cases ds with
  | nil => cases h
  | cons d t =>
    cases t with
    | cons _ _ => cases d <;> cases h
    | nil =>
      obtain ⟨v, rs, rfl, h1, h2⟩ := r
      have h2 : rs = [] := h2
      subst h2
      cases d <;> try (cases h; done)
      rename_i ds
      obtain ⟨a, vs, rfl, tp, rp⟩ := seeL h1
      simp only [fSorted] at h
      split at h
      case isFalse => cases h
      case isTrue hz =>
        cases hT : tupsD ds with
        | none => rw [hT] at h; cases h
        | some ns =>
          rw [hT] at h
          cases h
          have ed := tupsD_eq hT
          subst ed
          refine ⟨a, vs, rfl, SqL.of tp, fun x hx => let ⟨n, h, _⟩ := reps_all rp x hx; ⟨n, h⟩, fun ys p uq hp hs np => ?_⟩
          -- each item's numbers
          let f : V → List Int := fun x => open Classical in if h : ∃ n, TupI K H x n then h.choose else []
          have hf : ∀ x n, TupI K H x n → f x = n := fun x n h => by
            have hx : ∃ n, TupI K H x n := ⟨n, h⟩
            show (open Classical in if h : ∃ n, TupI K H x n then h.choose else []) = n
            rw [dif_pos hx]
            exact uq x _ _ hx.choose_spec h
          have e1 : vs.map f = ns := reps_fun hf rp
          have hrep : ∀ x ∈ ys, Rep K (Liv Acc μ ι) H (ofTup (f x)) x := fun x hx => by
            obtain ⟨n, t, r⟩ := reps_all rp x (hp.mem_iff.mp hx)
            rw [hf x n t]; exact r
          have e2 : ys.map f = sortL ns := by
            refine srt_uniq ?_ (sortL_srt ns) ?_
            · rw [SrtL, List.pairwise_map]
              refine List.Pairwise.imp_of_mem (fun {x y} hx hy h => ?_) hs
              obtain ⟨n, t, _⟩ := reps_all rp x (hp.mem_iff.mp hx)
              obtain ⟨m, t', _⟩ := reps_all rp y (hp.mem_iff.mp hy)
              rw [hf x n t, hf y m t']
              exact h n m t t'
            · rw [← e1]
              exact (hp.map f).trans (by rw [e1]; exact (sortL_perm ns).symm)
          have rr := of_fun hrep
          rw [e2] at rr
          exact q (.ref p) _ (S.up np _) ⟨⟨p, rfl, np, S.newL np rr⟩, S.ownN np rr⟩
end VM
/-! Words for the printed walks. -/
namespace VM
open PySem L2 PyProof.Rows
section
variable {X : Cx} {XC : Nat → Addr} {F : Fns} {W : WX} {a b c e tg iter : Expr} {es : List Expr} {fa fb fc fe : SE} {pos p p1 : Pos} {x : Str}
theorem w_v (i : Nat) (hN : X.N[i]? = some x := by rfl) (hv : Vis X.env.scope x := by first | exact Or.inl rfl | exact Or.inr (Or.inl rfl) | exact Or.inr (Or.inr rfl)) (hd : (x == ("__debug__" : Str)) = false := by decide) (hcd : (x == ("__classdict__" : Str)) = false := by decide) : PE X (.Name x pos) (rdE X.K XC F W (eV i)) := c_var hN hv hd hcd
/-- a constant of the module, as the top holds it -/
def HasC (mg : Str → Option Value) (x : Str) (v : V) : Prop := ∃ u, mg x = some u ∧ RelV v u
theorem w_gs {y : Str} (h : HasC X.mg x (.str y)) (hg : Gl X x := by rfl) (hd : (x == ("__debug__" : Str)) = false := by decide) : PE X (.Name x pos) (rdE X.K XC F W (eC (.str y))) :=
  let ⟨_, h1, h2⟩ := h; c_glob hg h1 h2 (fun _ _ => by simp only [Rep]) hd
theorem w_gi {y : Int} (h : HasC X.mg x (.int y)) (hg : Gl X x := by rfl) (hd : (x == ("__debug__" : Str)) = false := by decide) : PE X (.Name x pos) (rdE X.K XC F W (eC (.int y))) :=
  let ⟨_, h1, h2⟩ := h; c_glob hg h1 h2 (fun _ _ => by simp only [Rep]) hd
theorem w_bin {op : Operator} (ha : PE X a (rdE X.K XC F W fa)) (hb : PE X b (rdE X.K XC F W fb)) : PE X (.BinOp a op b pos) (rdE X.K XC F W (eBin op fa fb)) := let ⟨_, h1, h2⟩ := bin_ok X op; c_bin h1 h2 ha hb
theorem w_cmp {op : CmpOp} (hu : X.A.units + 65 < cLine) (ha : PE X a (rdE X.K XC F W fa)) (hb : PE X b (rdE X.K XC F W fb)) (hm : behindInMarks op b = false := by rfl) : PE X (.Compare a [op] [b] pos) (rdE X.K XC F W (eCmp (opCmp op) fa fb)) := let ⟨_, h1, h2⟩ := cmp_ok X hu op; c_cmp h1 h2 ha hb hm
theorem wt_cmp {op : CmpOp} (hu : X.A.units + 65 < cLine) (ha : PE X a (rdE X.K XC F W fa)) (hb : PE X b (rdE X.K XC F W fb)) (hm : behindInMarks op b = false := by rfl) : PT X (.Compare a [op] [b] pos) (rdB X.K XC F W (bCmp (opCmp op) fa fb)) := let ⟨_, h1, h2⟩ := cmp_ok X hu op; ct_cmp h1 h2 ha hb hm
theorem w_chain {op op' : CmpOp} (hu : X.A.units + 65 < cLine) (ha : PE X a (rdE X.K XC F W fa)) (hb : PE X b (rdE X.K XC F W fb)) (hc : PE X c (rdE X.K XC F W fc)) (hm : lastMarks [op, op'] [b, c] = false := by rfl) : PE X (.Compare a [op, op'] [b, c] pos) (rdE X.K XC F W (eChain (opCmp op) (opCmp op') fa fb fc)) :=
  let ⟨_, h1, h2⟩ := cmp_ok X hu op; let ⟨_, h3, h4⟩ := cmp_ok X hu op'; c_chain h1 h2 h3 h4 ha hb hc hm
theorem wt_chain {op op' : CmpOp} (hu : X.A.units + 65 < cLine) (ha : PE X a (rdE X.K XC F W fa)) (hb : PE X b (rdE X.K XC F W fb)) (hc : PE X c (rdE X.K XC F W fc)) (hm : lastMarks [op, op'] [b, c] = false := by rfl) : PT X (.Compare a [op, op'] [b, c] pos) (rdB X.K XC F W (bChain (opCmp op) (opCmp op') fa fb fc)) :=
  let ⟨_, h1, h2⟩ := cmp_ok X hu op; let ⟨_, h3, h4⟩ := cmp_ok X hu op'; ct_chain h1 h2 h3 h4 ha hb hc hm
theorem wt_tru (ha : PE X a (rdE X.K XC F W fa)) (he : ∀ whole, isTrue a X.env whole = (do let v ← whole; standAt a.pos; holding [v] (truthy v)) := by intro _; rfl) : PT X a (rdB X.K XC F W (bTru fa)) := ct_tru ha he
theorem w_ix (hu : X.A.units + 65 < cLine) (ha : PE X a (rdE X.K XC F W fa)) (hb : PE X b (rdE X.K XC F W fb)) (hs : PlainIx b := by intro _ _; rfl) : PE X (.Subscript a b pos) (rdE X.K XC F W (eIx fa fb)) := c_ix (by omega) ha hb hs
theorem w_isi (T : Ty) {t : Str} (hm : X.mg "isinstance" = none) (ht : PE X (.Name t p1) (tC (.ty T.name))) (ha : PE X e (rdE X.K XC F W fa)) (hg : Gl X "isinstance" := by rfl) (he : starEach [e, .Name t p1] X.env = (false, eval e X.env) :: starEach [.Name t p1] X.env := by rfl) :
    PE X (.Call (.Name "isinstance" p) [e, .Name t p1] [] pos) (rdE X.K XC F W (eIsi T fa)) := c_isi hg hm ht ha he
theorem w_fn {id : String} {r : List V → Hp → VK → Prop} {f : List D → Option EV} {fs : SA} (hc : CallR X (.builtin id) r) (ho : OpN X.K f r) (hv : bootBuiltins x = some (.builtin id)) (hm : X.mg x = none) (ha : PA X (e :: es) (rdA X.K XC F W fs)) (hg : Gl X x := by rfl) (hn : x ≠ "__name__" := by decide) (hdb : (x == ("__debug__" : Str)) = false := by decide)
    (he : starEach (e :: es) X.env = (false, eval e X.env) :: starEach es X.env := by rfl) (hpl : (backTo pos (starEach es X.env)).any (·.1) = false := by rfl) : PE X (.Call (.Name x p) (e :: es) [] pos) (rdE X.K XC F W (eCb f fs)) := c_callB hc ho hg hm hv ha hn hdb he hpl
theorem w_ty {T : String} {r : List V → Hp → VK → Prop} {f : List D → Option EV} {fs : SA} (hc : CallR X (.type T) r) (ho : OpN X.K f r) (hv : bootBuiltins x = some (.type T)) (hm : X.mg x = none) (ha : PA X (e :: es) (rdA X.K XC F W fs)) (hg : Gl X x := by rfl) (hn : x ≠ "__name__" := by decide) (hdb : (x == ("__debug__" : Str)) = false := by decide)
    (he : starEach (e :: es) X.env = (false, eval e X.env) :: starEach es X.env := by rfl) (hpl : (backTo pos (starEach es X.env)).any (·.1) = false := by rfl) : PE X (.Call (.Name x p) (e :: es) [] pos) (rdE X.K XC F W (eCb f fs)) := c_callTy hc ho hg hm hv ha hn hdb he hpl
theorem c_and1 (ha : PE X a (rdE X.K XC F W fa)) : PE X (.BoolOp .And [a] pos) (rdE X.K XC F W fa) := ⟨fun pins s σ H Q I h => BoolOp_one (ha.run pins s σ H Q I h)⟩
theorem c_or1 (ha : PE X a (rdE X.K XC F W fa)) : PE X (.BoolOp .Or [a] pos) (rdE X.K XC F W fa) := ⟨fun pins s σ H Q I h => BoolOp_one (ha.run pins s σ H Q I h)⟩
theorem a0 : PA X [] (rdA X.K XC F W (evs [])) := ca_nil
theorem a1 {fs : List SE} (ha : PE X e (rdE X.K XC F W fe)) (hr : PA X es (rdA X.K XC F W (evs fs))) (hs : starEach (e :: es) X.env = (false, eval e X.env) :: starEach es X.env := by rfl) : PA X (e :: es) (rdA X.K XC F W (evs (fe :: fs))) := ca_cons ha hr hs
theorem w_r1 {fa : SE} (hm : X.mg "range" = none) (ha : PE X a (rdE X.K XC F W fa)) (hg : Gl X "range" := by rfl) (hs : starEach [a] X.env = [(false, eval a X.env)] := by rfl) : PI X tg (.Call (.Name "range" p) [a] [] pos) (rdI X.K XC F W (iRange (evs [fa]))) :=
  ci_range1 hg hm (ca_cons ha ca_nil hs) hs fun F ρ μ vs μ' h => evs_len _ _ _ _ _ _ h
theorem w_r2 {fa fb : SE} (hm : X.mg "range" = none) (ha : PE X a (rdE X.K XC F W fa)) (hb : PE X b (rdE X.K XC F W fb)) (hg : Gl X "range" := by rfl) (hs : starEach [a, b] X.env = [(false, eval a X.env), (false, eval b X.env)] := by rfl) (hs2 : starEach [b] X.env = [(false, eval b X.env)] := by rfl) : PI X tg (.Call (.Name "range" p) [a, b] [] pos) (rdI X.K XC F W (iRange (evs [fa, fb]))) :=
  ci_range2 hg hm (ca_cons ha (ca_cons hb ca_nil hs2) (by rw [hs, hs2])) hs hs2 fun F ρ μ vs μ' h => evs_len _ _ _ _ _ _ h
theorem w_r3 {fa fb fc : SE} (hm : X.mg "range" = none) (ha : PE X a (rdE X.K XC F W fa)) (hb : PE X b (rdE X.K XC F W fb)) (hc : PE X c (rdE X.K XC F W fc)) (hg : Gl X "range" := by rfl) (hs : starEach [a, b, c] X.env = (false, eval a X.env) :: starEach [b, c] X.env := by rfl) (hs2 : starEach [b, c] X.env = (false, eval b X.env) :: starEach [c] X.env := by rfl)
    (hs3 : starEach [c] X.env = (false, eval c X.env) :: starEach [] X.env := by rfl) (hpl : (backTo pos (starEach [b, c] X.env)).any (·.1) = false := by rfl) : PI X tg (.Call (.Name "range" p) [a, b, c] [] pos) (rdI X.K XC F W (iRange (evs [fa, fb, fc]))) :=
  ci_range3 hg hm (ca_cons ha (ca_cons hb (ca_cons hc ca_nil hs3) hs2) hs) hs hpl fun F ρ μ vs μ' h => evs_len _ _ _ _ _ _ h
end
theorem lt1 {a b : Nat} (h : a + 65 < b) : a + 1 < b := by omega
theorem lt64 {a b : Nat} (h : a + 65 < b) : a + 64 < b := by omega
theorem hu65 {A : Around} {k : Nat} (hr : Room k A) : A.units + 65 < cLine := by have := hr.un; omega
theorem hu152 {A : Around} {k : Nat} (hr : Room k A) : A.units + 152 < cLine := by have := hr.un; omega
theorem fn_same {K : PySem.W.Frag} {x : Str} {st : Stmt} {f : Addr} {fd fd' : FuncData} (F : Fun K x x st f fd) (F' : Fun K x x st f fd') : fd = fd' := by
  obtain ⟨oc, od, _, _, _, _, _, _, osl, _, h, _⟩ := F.ex
  obtain ⟨oc', od', _, _, _, _, _, _, osl', _, h', _⟩ := F'.ex
  rw [h] at h'
  cases h'
  rfl
/-- the promise of the law itself -/
theorem law_fn {P : Program} {w : World} {K : PySem.W.Frag} {mg : Str → Option Value} {base : Heap} {XC : Nat → Addr} {F : Fns} {n i : Nat} {x : Str} {ps : List Str} {st : Stmt} {f : Addr} {fd : FuncData} (G : FnR P w K mg base XC F n i x ps st) (FF : Fun K x x st f fd) (hm : mg x = some (.ref f)) :
    FnG P w K mg base CX0 n f fd ps (spF K XC F i ps.length) := by
  obtain ⟨f', fd', F', m', _, g⟩ := G.ex
  rw [hm] at m'
  cases m'
  rw [fn_same FF F']
  exact g
theorem law_sp {K : PySem.W.Frag} {XC : Nat → Addr} {F : Fns} {i : Nat} {H : Hp} {a : Addr} {ns : List Int} (hS : SqL K H a (ns.map V.int)) (h : ∃ μ, F i [.dat (.scr ns)] [] = .ok (.dat (.bl true)) μ) : spF K XC F i 1 [.ref a] H (fun v _ => v = .bl true) fun _ _ _ => False := by
  obtain ⟨μ, h⟩ := h
  have S : Sim K (fun _ => False) [] [] H := ⟨rfl, List.nodup_nil, fun a h => h.elim, fun k c h => by simp at h, fun a z => by
    rcases z with ⟨k, c, h, _⟩ | z
    · simp at h
    · exact z.elim⟩
  refine ⟨rfl, fun _ => False, [], [], [.dat (.scr ns)], S, ⟨.ref a, [], rfl, ?_, rfl⟩, ?_⟩
  · refine (?_ : ∃ a', V.ref a = .ref a' ∧ LstN K (Liv (fun _ => False) [] []) H a' (ns.map V.int))
    refine ⟨a, rfl, ?_⟩
    rcases hS with h | h
    · refine .inl ⟨h, fun z => ?_⟩
      rcases z with ⟨k, c, h, _⟩ | z
      · simp at h
      · exact z
    · exact .inr h
  · rw [h]
    intro b H' _ r
    exact r.1
end VM
/-! What the small programs compute, as rewriting rules. -/
namespace VM
section
variable {F : Fns} {ρ : Env} {μ : Sto} {f g h : SE} {t u : SB} {fs : List SE} {i j k l : Nat} {a b c : SS} {d : D} {e1 e2 : EV}
@[simp] theorem Res.bind_ok {α β : Type} {a : α} {f : α → Sto → Res β} : (Res.ok a μ).bind f = f a μ := rfl
@[simp] theorem Res.bind_bad {α β : Type} {f : α → Sto → Res β} : (Res.bad : Res α).bind f = .bad := rfl
@[simp] theorem Res.nox_ok {α : Type} {a : α} : (Res.ok a μ).nox = .ok a μ := rfl
@[simp] theorem see_dat : (EV.dat d).see μ = some d := rfl
@[simp] theorem see_new {c : CV} : (EV.new c).see μ = some c.toD := rfl
@[simp] theorem toD_lst {ds : List D} : (CV.lst ds).toD = .lst ds := rfl
@[simp] theorem toD_dic {ks : List L2.Key} {ds : List D} : (CV.dic ks ds).toD = .dic ks ds := rfl
@[simp] theorem frz_dat : (EV.dat d).frz μ = some (d, μ) := rfl
@[simp] theorem frz_new {c : CV} : (EV.new c).frz μ = some (c.toD, μ) := rfl
@[simp] theorem bnd_dat : (EV.dat d).bnd μ = (.dat d, μ) := rfl
@[simp] theorem bnd_cel : (EV.cel k).bnd μ = (.cel k, μ) := rfl
@[simp] theorem bnd_new {c : CV} : (EV.new c).bnd μ = (.cel μ.length, μ ++ [⟨true, c⟩]) := rfl
@[simp] theorem ev_dat : (SV.dat d).ev = .dat d := rfl
@[simp] theorem ev_cel : (SV.cel k).ev = .cel k := rfl
@[simp] theorem arg_dat : (EV.dat d).arg = .dat d := rfl
@[simp] theorem arg_cel : (EV.cel k).arg = .cel k := rfl
@[simp] theorem arg_new {c : CV} : (EV.new c).arg = .dat c.toD := rfl
theorem see_cel {c : Cell} (h : μ[k]? = some c) : (EV.cel k).see μ = some c.val.toD := by
  show (match μ[k]? with | some c => some c.val.toD | none => none) = _
  rw [h]
@[simp] theorem frzs_nil : frzs [] μ = some ([], μ) := rfl
@[simp] theorem frzs_cons {es : List EV} : frzs (e1 :: es) μ = match e1.frz μ with
  | some (d, μ1) => match frzs es μ1 with
    | some (ds, μ2) => some (d :: ds, μ2)
    | none => none
  | none => none := rfl
@[simp] theorem x_C : eC d F ρ μ = .ok (.dat d) μ := rfl
@[simp] theorem x_V : eV i F ρ μ = match ρ[i]? with
  | some (some s) => .ok s.ev μ
  | _ => .bad := rfl
@[simp] theorem x_evs0 : evs [] F ρ μ = .ok [] μ := rfl
@[simp] theorem x_evs : evs (f :: fs) F ρ μ = (f F ρ μ).bind fun v μ1 => (evs fs F ρ μ1).bind fun vs μ2 => .ok (v :: vs) μ2 := rfl
@[simp] theorem x_tup {fa : SA} : eTup fa F ρ μ = (fa F ρ μ).bind fun vs μ1 => match frzs vs μ1 with
  | some (ds, μ2) => if ds.length ≤ LIM then .ok (.dat (.tup ds)) μ2 else .bad
  | none => .bad := rfl
@[simp] theorem x_lst {fa : SA} : eLst fa F ρ μ = (fa F ρ μ).bind fun vs μ1 => match frzs vs μ1 with
  | some (ds, μ2) => if ds.length ≤ LIM then .ok (.new (.lst ds)) μ2 else .bad
  | none => .bad := rfl
@[simp] theorem x_bin {op : PySem.Operator} : eBin op f g F ρ μ = (f F ρ μ).bind fun a μ1 => (g F ρ μ1).bind fun b μ2 => lift2 (opBin op) a b μ2 := rfl
@[simp] theorem x_cmp {p : D → D → Option Bool} : eCmp p f g F ρ μ = (f F ρ μ).bind fun a μ1 => (g F ρ μ1).bind fun b μ2 => lift2 (fun a b => (p a b).map fun k => .dat (.bl k)) a b μ2 := rfl
@[simp] theorem xt_cmp {p : D → D → Option Bool} : bCmp p f g F ρ μ = (f F ρ μ).bind fun a μ1 => (g F ρ μ1).bind fun b μ2 => lift2B p a b μ2 := rfl
@[simp] theorem x_ix : eIx f g F ρ μ = (f F ρ μ).bind fun a μ1 => (g F ρ μ1).bind fun b μ2 => lift2 opIx a b μ2 := rfl
@[simp] theorem x_lift2 {p : D → D → Option EV} : lift2 p e1 e2 μ = match e1.see μ, e2.see μ with
  | some x, some y => match p x y with
    | some e => .ok e μ
    | none => .bad
  | _, _ => .bad := rfl
@[simp] theorem x_lift2B {p : D → D → Option Bool} : lift2B p e1 e2 μ = match e1.see μ, e2.see μ with
  | some x, some y => match p x y with
    | some e => .ok e μ
    | none => .bad
  | _, _ => .bad := rfl
@[simp] theorem x_cb {p : List D → Option EV} {fa : SA} : eCb p fa F ρ μ = (fa F ρ μ).bind fun vs μ1 => liftN p vs μ1 := rfl
@[simp] theorem x_liftN {p : List D → Option EV} {vs : List EV} : liftN p vs μ = match sees vs μ with
  | some ds => match p ds with
    | some e => .ok e μ
    | none => .bad
  | none => .bad := rfl
@[simp] theorem sees_nil : sees [] μ = some [] := rfl
@[simp] theorem sees_cons {es : List EV} : sees (e1 :: es) μ = match e1.see μ, sees es μ with
  | some d, some ds => some (d :: ds)
  | _, _ => none := rfl
@[simp] theorem x_isi {T : Ty} : eIsi T f F ρ μ = (f F ρ μ).bind fun v μ1 => match v.see μ1 with
  | some d => .ok (.dat (.bl (isi T d))) μ1
  | none => .bad := rfl
@[simp] theorem x_call {fa : SA} : eCall i fa F ρ μ = (fa F ρ μ).bind fun vs μ1 => F i (vs.map EV.arg) μ1 := rfl
@[simp] theorem x_callK {fa fk : SA} {perm : List Nat} : eCallK i fa fk perm F ρ μ = (fa F ρ μ).bind fun vs μ1 => (fk F ρ μ1).bind fun zs μ2 => F i ((perm.filterMap fun i => (vs ++ zs)[i]?).map EV.arg) μ2 := rfl
@[simp] theorem xt_tru : bTru f F ρ μ = (f F ρ μ).bind truR := rfl
@[simp] theorem x_truR : truR e1 μ = match e1.see μ with
  | some d => match tru d with
    | some k => .ok k μ
    | none => .bad
  | none => .bad := rfl
@[simp] theorem xt_not : bNot t F ρ μ = (t F ρ μ).bind fun k μ1 => .ok (!k) μ1 := rfl
@[simp] theorem xt_and : bAnd t u F ρ μ = (t F ρ μ).bind fun k μ1 => match k with
  | true => u F ρ μ1
  | false => .ok false μ1 := rfl
@[simp] theorem xt_or : bOr t u F ρ μ = (t F ρ μ).bind fun k μ1 => match k with
  | true => .ok true μ1
  | false => u F ρ μ1 := rfl
@[simp] theorem x_and : eAnd f g F ρ μ = (f F ρ μ).bind fun v μ1 => (truR v μ1).bind fun k μ2 => match k with
  | true => g F ρ μ2
  | false => .ok v μ2 := rfl
@[simp] theorem x_or : eOr f g F ρ μ = (f F ρ μ).bind fun v μ1 => (truR v μ1).bind fun k μ2 => match k with
  | true => .ok v μ2
  | false => g F ρ μ2 := rfl
@[simp] theorem x_not : eNot f F ρ μ = (f F ρ μ).bind fun v μ1 => (truR v μ1).bind fun k μ2 => .ok (.dat (.bl (!k))) μ2 := rfl
@[simp] theorem x_if : eIf t f g F ρ μ = (t F ρ μ).bind fun k μ1 => match k with
  | true => f F ρ μ1
  | false => g F ρ μ1 := rfl
@[simp] theorem x_yes : bYes F ρ μ = .ok true μ := rfl
@[simp] theorem xs_seq : sSeq a b F ρ μ = match a F ρ μ with
  | .ok (.nx ρ1) μ1 => b F ρ1 μ1
  | r => r := rfl
@[simp] theorem xs_pass : sPass F ρ μ = .ok (.nx ρ) μ := rfl
@[simp] theorem xs_drop : sDrop f F ρ μ = (f F ρ μ).bind fun _ μ1 => .ok (.nx ρ) μ1 := rfl
@[simp] theorem xs_ret : sRet f F ρ μ = (f F ρ μ).bind fun v μ1 => .ok (.rt v) μ1 := rfl
@[simp] theorem xs_if : sIf t a b F ρ μ = (t F ρ μ).bind fun k μ1 => match k with
  | true => a F ρ μ1
  | false => b F ρ μ1 := rfl
@[simp] theorem xs_set : sSet i f F ρ μ = (f F ρ μ).bind fun v μ1 => .ok (.nx (ρ.set i (some (v.bnd μ1).1))) (v.bnd μ1).2 := rfl
@[simp] theorem xs_par : sPar i j f g F ρ μ = (f F ρ μ).bind fun v μ1 => (g F ρ (v.bnd μ1).2).bind fun w μ2 => .ok (.nx ((ρ.set i (some (v.bnd μ1).1)).set j (some (w.bnd μ2).1))) (w.bnd μ2).2 := rfl
@[simp] theorem xs_asg {p : SG} : sAsg f p F ρ μ = (f F ρ μ).bind fun v μ1 => match v.frz μ1 with
  | some (d, μ2) => (p d F ρ μ2).bind fun ρ1 μ3 => .ok (.nx ρ1) μ3
  | none => .bad := rfl
@[simp] theorem xg_nm : gNm i d F ρ μ = .ok (ρ.set i (some (.dat d))) μ := rfl
@[simp] theorem xg_tp {gs : List SG} {ds : List D} : gTp gs (.tup ds) F ρ μ = if ds.length = gs.length then sgs gs ds F ρ μ else .bad := rfl
@[simp] theorem xg_nil : sgs [] [] F ρ μ = .ok ρ μ := rfl
@[simp] theorem xg_cons {p : SG} {gs : List SG} {ds : List D} : sgs (p :: gs) (d :: ds) F ρ μ = (p d F ρ μ).bind fun ρ1 μ1 => sgs gs ds F ρ1 μ1 := rfl
@[simp] theorem xs_while : sWhile t a F ρ μ = whL (t F) (a F) LIM ρ μ := rfl
@[simp] theorem xs_for {it : SI} {p : SG} : sFor it p a F ρ μ = (it F ρ μ).bind fun s μ1 => forL F s p a (s.len μ1 + 1) 0 ρ μ1 := rfl
@[simp] theorem xi_of : iOf f F ρ μ = (f F ρ μ).bind fun v μ1 => match srcOf v μ1 with
  | some s => .ok s μ1
  | none => .bad := rfl
@[simp] theorem xi_enm : iEnm f F ρ μ = (f F ρ μ).bind fun v μ1 => match isTx v, srcOf v μ1 with
  | false, some s => .ok s.enum μ1
  | _, _ => .bad := rfl
@[simp] theorem xi_rng {fa : SA} : iRange fa F ρ μ = (fa F ρ μ).bind fun vs μ1 => match rangeOf vs with
  | some s => .ok s μ1
  | none => .bad := rfl
@[simp] theorem x_lc {it : SI} {tg : Tgt} {own : List Nat} : eLc it tg t f own F ρ μ = (it F ρ μ).bind fun s μ1 => (lcLoop s (lcStep F tg t f (wipeE ρ own)) (s.len μ1 + 1) 0 μ1).bind fun ds μ2 => if ds.length ≤ LIM then .ok (.new (.lst ds)) μ2 else .bad := rfl
@[simp] theorem x_rev : eRev f F ρ μ = (f F ρ μ).bind fun v μ1 => match v.see μ1 with
  | some (.lst ds) => .ok (.new (.lst ds.reverse)) μ1
  | some (.tup ds) => .ok (.dat (.tup ds.reverse)) μ1
  | _ => .bad := rfl
@[simp] theorem x_sl {l h : SOp} : eSl f l h F ρ μ = (f F ρ μ).bind fun a μ1 => (l F ρ μ1).bind fun lo μ2 => (h F ρ μ2).bind fun hi μ3 => match a.see μ3 with
  | some d => match opSl d lo hi with
    | some e => .ok e μ3
    | none => .bad
  | none => .bad := rfl
@[simp] theorem x_dict0 : eDict0 F ρ μ = .ok (.new (.dic [] [])) μ := rfl
@[simp] theorem src_vals {ds : List D} : (Src.vals ds).at μ = some ds := rfl
@[simp] theorem src_len {ds : List D} : (Src.vals ds).len μ = ds.length := rfl
end

/-! ### stores -/
section
variable {μ r : Sto} {c d c' : Cell}
@[simp] theorem get_a0 : (μ ++ c :: r)[μ.length]? = some c := by rw [List.getElem?_append_right (Nat.le_refl _), Nat.sub_self]; rfl
@[simp] theorem get_a1 : (μ ++ c :: d :: r)[μ.length + 1]? = some d := by
  rw [List.getElem?_append_right (Nat.le_succ _), show μ.length + 1 - μ.length = 1 by omega]; rfl
@[simp] theorem set_a0 : (μ ++ c :: r).set μ.length c' = μ ++ c' :: r := by
  rw [List.set_append_right _ _ (Nat.le_refl _), Nat.sub_self]; rfl
@[simp] theorem set_a1 : (μ ++ c :: d :: r).set (μ.length + 1) c' = μ ++ c :: c' :: r := by
  rw [List.set_append_right _ _ (Nat.le_succ _), show μ.length + 1 - μ.length = 1 by omega]; rfl
@[simp] theorem take_a : (μ ++ r).take μ.length = μ := by simp
end

/-! ### loops -/
theorem lc_pure {s : List D} {step : D → Sto → Res (Option D)} {g : D → Option D} {μ : Sto} (h : ∀ d ∈ s, step d μ = .ok (g d) μ) : ∀ (n i : Nat), i ≤ s.length → s.length < i + n → s.length ≤ LIM → lcLoop (.vals s) step n i μ = .ok ((s.drop i).filterMap g) μ
  | 0, i, hi, hn, hl => by omega
  | n + 1, i, hi, hn, hl => by
    unfold lcLoop
    simp only [src_vals]
    cases e : s[i]? with
    | none =>
      have hi : s.length ≤ i := List.getElem?_eq_none_iff.mp e
      rw [List.drop_eq_nil_of_le hi]; rfl
    | some d =>
      have hi : i < s.length := (List.getElem?_eq_some_iff.mp e).1
      have hd : d ∈ s := List.mem_of_getElem? e
      simp only
      rw [if_pos (by omega), h d hd, Res.bind_ok, lc_pure h n (i + 1) (by omega) (by omega) hl, Res.bind_ok]
      have e2 : s.drop i = d :: s.drop (i + 1) := by
        rw [List.drop_eq_getElem_cons hi]
        congr 1
        exact (List.getElem?_eq_some_iff.mp e).2
      rw [e2, List.filterMap_cons]
      cases g d <;> rfl
end VM
namespace VM
section
variable {F : Fns} {ρ : Env} {μ : Sto} {f g : SE} {t : SB} {o : SE} {fa : SA} {act : Act}
@[simp] theorem x_cm : eCM act o fa F ρ μ = (o F ρ μ).bind fun v μ1 => match v with
  | .cel k => match μ1[k]? with
    | some c0 => match c0.val with
      | .lst _ => (fa F ρ μ1).bind fun vs μ2 => match frzs vs μ2 with
        | some (args, μ3) => match μ3[k]? with
          | some c => match c.live, c.val with
            | true, .lst ds => match act ds args with
              | some (r, ds') => .ok (.dat r) (μ3.set k ⟨true, .lst ds'⟩)
              | none => .bad
            | _, _ => .bad
          | none => .bad
        | none => .bad
      | _ => .bad
    | none => .bad
  | _ => .bad := rfl
@[simp] theorem aPop_c {l : List D} {d : D} : aPop (l ++ [d]) [] = some (d, l) := by
  unfold aPop
  simp
theorem aAppend_c {l : List D} {d : D} (h : l.length < LIM) : aAppend l [d] = some (.non, l ++ [d]) := if_pos h
theorem aExtend_t {l e : List D} (h : l.length + e.length ≤ LIM) : aExtend l [.tup e] = some (.non, l ++ e) := if_pos h
theorem aExtend_c {l e : List D} (h : l.length + e.length ≤ LIM) : aExtend l [.lst e] = some (.non, l ++ e) := if_pos h
@[simp] theorem x_step {tg : Tgt} {d : D} : lcStep F tg t f ρ d μ = match asg tg d ρ with
  | none => .bad
  | some ρ => (t F ρ μ).nox.bind fun b μ1 => match b with
    | true => (f F ρ μ1).nox.bind fun v μ2 => match v.frz μ2 with
      | some (x, μ3) => .ok (some x) μ3
      | none => .bad
    | false => .ok none μ1 := rfl
end
/-- a list of things still to be looked at, from the end on -/
def stk {α : Type} (enc : α → D) (μ : Sto) (Fd : List D) (L : List α) : Sto := μ ++ [⟨true, .lst Fd⟩, ⟨true, .lst (L.map enc).reverse⟩]
theorem stack_loop {α : Type} (enc : α → D) (out : α → List D) (kids : α → List α) (all : α → List D) (size : α → Nat) (good : α → Prop) (okρ : Env → Prop) (B : Nat) {c : Env → Sto → Res Bool} {b : Env → Sto → Res SO} {μ : Sto}
    (hall : ∀ x, good x → all x = out x ++ (kids x).flatMap all) (hsz : ∀ x, good x → 1 + ((kids x).map size).sum ≤ size x) (hout : ∀ x, good x → (out x).length + ((kids x).map size).sum ≤ size x) (hkid : ∀ x, good x → ∀ y ∈ kids x, good y)
    (hc : ∀ ρ Fd L, okρ ρ → (∀ x ∈ L, good x) → c ρ (stk enc μ Fd L) = .ok (!L.isEmpty) (stk enc μ Fd L))
    (hb : ∀ ρ Fd x L, okρ ρ → good x → (∀ y ∈ L, good y) → Fd.length + size x + (L.map size).sum ≤ B → ∃ ρ', okρ ρ' ∧ b ρ (stk enc μ Fd (x :: L)) = .ok (.nx ρ') (stk enc μ (Fd ++ out x) (kids x ++ L))) :
    ∀ (m fuel : Nat) (ρ : Env) (Fd : List D) (L : List α), okρ ρ → (∀ x ∈ L, good x) → (L.map size).sum ≤ m → m < fuel → Fd.length + (L.map size).sum ≤ B → ∃ ρ', okρ ρ' ∧ whL c b fuel ρ (stk enc μ Fd L) = .ok (.nx ρ') (stk enc μ (Fd ++ L.flatMap all) [])
  | m, 0, ρ, Fd, L, _, _, _, hf, _ => by omega
  | m, fuel + 1, ρ, Fd, [], ho, hg, hs, hf, hB => by
    refine ⟨ρ, ho, ?_⟩
    unfold whL
    rw [hc ρ Fd [] ho hg]
    simp
  | m, fuel + 1, ρ, Fd, x :: L, ho, hg, hs, hf, hB => by
    have gx := hg x List.mem_cons_self
    have gL : ∀ y ∈ L, good y := fun y hy => hg y (List.mem_cons_of_mem _ hy)
    rw [List.map_cons, List.sum_cons] at hs hB
    have h1 := hsz x gx
    have h2 := hout x gx
    obtain ⟨ρ', ho', e⟩ := hb ρ Fd x L ho gx gL (by omega)
    have hm : ((kids x ++ L).map size).sum = ((kids x).map size).sum + (L.map size).sum := by rw [List.map_append, List.sum_append]
    obtain ⟨ρ2, ho2, e2⟩ := stack_loop enc out kids all size good okρ B hall hsz hout hkid hc hb (m - 1) fuel ρ' (Fd ++ out x) (kids x ++ L) ho' (fun y hy => (List.mem_append.mp hy).elim (hkid x gx y) (gL y)) (by rw [hm]; omega) (by omega) (by rw [hm, List.length_append]; omega)
    refine ⟨ρ2, ho2, ?_⟩
    unfold whL
    rw [hc ρ Fd (x :: L) ho hg]
    simp only [List.isEmpty_cons, Bool.not_false, Res.bind_ok, e, e2]
    rw [List.flatMap_append, List.flatMap_cons, hall x gx, List.append_assoc, List.append_assoc]
end VM
namespace VM
@[simp] theorem lm0 : (0 ≤ LIM) = True := eq_true (by decide)
@[simp] theorem lm1 : (1 ≤ LIM) = True := eq_true (by decide)
@[simp] theorem lm2 : (2 ≤ LIM) = True := eq_true (by decide)
@[simp] theorem lm3 : (3 ≤ LIM) = True := eq_true (by decide)
@[simp] theorem lm4 : (4 ≤ LIM) = True := eq_true (by decide)
@[simp] theorem lm5 : (5 ≤ LIM) = True := eq_true (by decide)
@[simp] theorem lm9 : (9 ≤ LIM) = True := eq_true (by decide)
theorem ix0 {a : D} {l : List D} : opIx (.tup (a :: l)) (.int 0) = some (.dat a) := by
  unfold opIx L2.atI L2.ixN
  simp
theorem ix1 {a b : D} {l : List D} : opIx (.tup (a :: b :: l)) (.int 1) = some (.dat b) := by
  unfold opIx L2.atI L2.ixN
  simp only [List.length_cons]
  rw [if_pos (by omega), if_pos (by omega)]
  rfl
theorem addI {i j : Int} : opBin .Add (.int i) (.int j) = some (.dat (.int (i + j))) := rfl
end VM
namespace VM
@[simp] theorem tru_bl {b : Bool} : tru (.bl b) = some b := rfl
@[simp] theorem src_tup {l : List D} {μ : Sto} : srcOf (.dat (.tup l)) μ = some (.vals l) := rfl
@[simp] theorem src_lst {l : List D} {μ : Sto} : srcOf (.dat (.lst l)) μ = some (.vals l) := rfl
@[simp] theorem src_newl {l : List D} {μ : Sto} : srcOf (.new (.lst l)) μ = some (.vals l) := rfl
theorem asg_nm {i : Nat} {d : D} {ρ : Env} (h : i < ρ.length) : asg (.nm i) d ρ = some (ρ.set i (some (.dat d))) := if_pos h
/-- a comprehension over told items, each of which gives one -/
theorem lc_map {s : List D} {step : D → Sto → Res (Option D)} {g : D → D} {μ : Sto} (h : ∀ d ∈ s, step d μ = .ok (some (g d)) μ) (hl : s.length ≤ LIM) : lcLoop (.vals s) step (s.length + 1) 0 μ = .ok (s.map g) μ := by
  rw [lc_pure (g := fun d => some (g d)) h (s.length + 1) 0 (Nat.zero_le _) (by omega) hl, List.drop_zero]
  congr 1
  induction s with
  | nil => rfl
  | cons a s ih => simp [List.filterMap_cons]
end VM
/-! sorted(set(xs)), xs ints or texts. -/
namespace VM
open PySem PySem.Spec L2 PyProof.Rows

/-! ### 1. a kind of members: of one type, ordered -/
structure SKd (P : Program) (w : World) (K : Type) [DecidableEq K] where
  knd : PySem.KeyKind P w K
  bk : Value → K
  toV : K → V
  back : ∀ {k : K} {v : Value}, knd.is k v = true → bk v = k
  scn : ∀ {k : K} {v : Value}, knd.is k v = true → v.scannable = true
  rel : ∀ {k : K} {v : Value}, knd.is k v = true ↔ RelV (toV k) v
  lt : K → K → Bool
  irr : ∀ a, lt a a = false
  tra : ∀ a b c, lt a b = true → lt b c = true → lt a c = true
  tri : ∀ a b, lt a b = false → lt b a = false → a = b
  one : ∀ {A : Around} {E : Value → Shared → Prop} {s : Shared} {a b : K} {u v : Value} {Q : Bool → Shared → Prop}, knd.is a u = true → knd.is b v = true → Q (lt a b) s → wpAny (model P w) A (oneLt' true u v) Q E s
  kin : ∀ {v1 v2 : Value} {vs : List Value}, (∀ v ∈ v1 :: v2 :: vs, knd.is (bk v) v = true) → keyKind' (v1 :: v2 :: vs).toArray = pure oneType'

section
variable {P : Program} {w : World} {K : Type} [DecidableEq K] (D : SKd P w K)
def SKd.Good (e : Int × Value) : Prop := ∃ k, D.knd.is k e.2 = true ∧ e.1 = D.knd.hash k
def SKd.ky (e : Int × Value) : K := D.bk e.2
/-- the set at a: its members are S, at most n -/
def SKd.At (h : Heap) (a : Addr) (S : K → Prop) (n : Nat) : Prop :=
  ∃ o es ep t, (h.get? a = some o ∧ o.ExactSet ∧ o.data = .set es ep t) ∧ ((∀ e ∈ es.toList, D.Good e) ∧ (es.toList.map D.ky).Nodup ∧ ∀ k, S k ↔ k ∈ es.toList.map D.ky) ∧
    (es.size ≤ n ∧ n < scanBound) ∧ t.fits es.size = true ∧ Ris t.place.toList ∧ (w.params.followText "set-order" = true ∨ t.led = true)
variable {D}
theorem SKd.At.at {h h' : Heap} {a : Addr} {S : K → Prop} {n : Nat} (R : D.At h a S n) (k : ∀ o, h.get? a = some o → h'.get? a = some o) : D.At h' a S n := by
  obtain ⟨o, es, ep, t, ⟨ho, hx⟩, r⟩ := R
  exact ⟨o, es, ep, t, ⟨k o ho, hx⟩, r⟩
theorem SKd.At.congr {h : Heap} {a : Addr} {S S' : K → Prop} {n : Nat} (R : D.At h a S n) (e : ∀ k, S' k ↔ S k) : D.At h a S' n := by
  obtain ⟨o, es, ep, t, hx, ⟨g, nd, m⟩, r⟩ := R
  exact ⟨o, es, ep, t, hx, ⟨g, nd, fun k => (e k).trans (m k)⟩, r⟩
theorem SKd.elems {l : List (Int × Value)} (g : ∀ e ∈ l, D.Good e) : ElemsOf D.knd l := fun e he => let ⟨k, h1, h2⟩ := g e he; ⟨⟨k, h1, h2⟩, D.scn h1⟩
theorem SKd.is_iff {e : Int × Value} (g : D.Good e) (k : K) : D.knd.is k e.2 = true ↔ D.ky e = k := by
  obtain ⟨k0, h1, _⟩ := g
  refine ⟨fun h => D.back h, fun h => ?_⟩
  have : k0 = k := (D.back h1).symm.trans h
  rw [← this]; exact h1
theorem SKd.mem_iff {l : List (Int × Value)} (g : ∀ e ∈ l, D.Good e) (k : K) : k ∈ l.map D.ky ↔ ∃ e ∈ l, D.knd.is k e.2 = true := by
  refine List.mem_map.trans ⟨fun ⟨e, he, q⟩ => ⟨e, he, (SKd.is_iff (g e he) k).2 q⟩, fun ⟨e, he, q⟩ => ⟨e, he, (SKd.is_iff (g e he) k).1 q⟩⟩

/-! ### 2. a member more -/
variable {A : Around} {E : Value → Shared → Prop} {s : Shared} {a : Addr} {S : K → Prop} {n : Nat}
theorem SKd.tail {g : Bool → Sem Unit} (hg : ∀ (b : Bool) (z : Shared) (Q' : Unit → Shared → Prop), Q' () z → wpAny (model P w) A (g b) Q' E z)
    {o : Obj} {es xs : Array (Int × Value)} {ep : Nat} {t u : SetTable} {S' : K → Prop} {wd : Bool} {R : Option Bool → Shared → Prop}
    (ho : s.heap.get? a = some o) (hex : o.ExactSet) (hd : o.data = .set es ep t) (g1 : (∀ e ∈ xs.toList, D.Good e) ∧ (xs.toList.map D.ky).Nodup ∧ ∀ k, S' k ↔ k ∈ xs.toList.map D.ky)
    (hb : xs.size ≤ n ∧ n < scanBound) (hf : u.fits xs.size = true) (hr : Ris u.place.toList) (hl : w.params.followText "set-order" = true ∨ u.led = true)
    (hR : ∀ h', Heap.SameBut a s.heap h' → D.At h' a S' n → R (some true) { s with heap := h' }) :
    wpAny (model P w) A (do
        storeSet a xs u
        if (!wd && u.tooFull) = true then do
            g (relayAll u xs (SetTable.grown xs.size)).2.2
            storeSet a (relayAll u xs (SetTable.grown xs.size)).1 (relayAll u xs (SetTable.grown xs.size)).2.1
            pure (some true)
          else pure (some true)) R E s := by
  have hb1 : xs.size < scanBound := Nat.lt_of_le_of_lt hb.1 hb.2
  refine wpAny_bind (wpAny_storeSet_of ho hd ?_ (fits_of_scanBound hb1))
  have o1 := store_at (es' := xs) (t' := u) ho hd
  have b1 := Heap.SameBut.update s.heap a (Obj.putSet xs u)
  split
  · have c1 := relayAll_perm u xs (SetTable.grown xs.size)
    have c2 := relayAll_fits u xs (SetTable.grown xs.size)
    have c3 := relayAll_ris u xs (SetTable.grown xs.size)
    have c4 := relayAll_led u xs (SetTable.grown xs.size)
    generalize relayAll u xs (SetTable.grown xs.size) = Y at c1 c2 c3 c4 ⊢
    obtain ⟨ys, v, gv⟩ := Y
    dsimp only at c1 c2 c3 c4 ⊢
    have z : ys.size = xs.size := by rw [← Array.length_toList, c1.length_eq, Array.length_toList]
    refine wpAny_bind (hg _ _ _ (wpAny_bind (wpAny_storeSet_of o1 rfl ?_ (fits_of_scanBound (by rw [z]; exact hb1)))))
    have o2 := store_at (es' := ys) (t' := v) o1 rfl
    refine wpAny_pure (hR _ (b1.trans (Heap.SameBut.update _ a _)) ⟨_, ys, _, v, ⟨o2, hex, rfl⟩, ⟨fun e he => g1.1 e (c1.mem_iff.mp he), (c1.map D.ky).nodup_iff.mpr g1.2.1, fun k => (g1.2.2 k).trans (c1.map D.ky).mem_iff.symm⟩,
      ⟨by rw [z]; exact hb.1, hb.2⟩, c2, c3, hl.imp id fun q => by rw [c4]; exact q⟩)
  · exact wpAny_pure (hR _ b1 ⟨_, xs, _, u, ⟨o1, hex, rfl⟩, g1, hb, hf, hr, hl⟩)

theorem SKd.add {k : K} {x : Value} {Q : Bool → Shared → Prop} (hx : D.knd.is k x = true) (R : D.At s.heap a S n) (room : n + 1 < scanBound)
    (hQ : ∀ b h', Heap.SameBut a s.heap h' → D.At h' a (fun j => S j ∨ j = k) (n + 1) → Q b { s with heap := h' }) : wpAny (model P w) A (setAddHashed a x (D.knd.hash k)) Q E s := by
  obtain ⟨o, es, ep, t, ⟨ho, hex, hd⟩, ⟨g, nd, hm⟩, ⟨hn, hb⟩, hf, hr, hl⟩ := R
  have hsc := D.scn hx
  have hel := SKd.elems g
  have hbs : es.size < scanBound := Nat.lt_of_le_of_lt hn hb
  unfold setAddHashed setAddHashedIn
  refine wpAny_holding (wpAny_bind (wpAny_setState_of ho hd hf ?_))
  dsimp only
  rw [byScan_of hsc hbs hel]
  simp only [↓reduceIte]
  unfold setAddByScan
  refine wpAny_bind (wpAny_bind (wpAny_rule (wpAny_bind (wpAny_setScan_of hx ho hd hf hel ?_))))
  cases hfi : List.findIdx? (fun e => D.knd.is k e.2) es.toList with
  | some j =>
    dsimp only
    obtain ⟨hj, pj, _⟩ := List.findIdx?_eq_some_iff_getElem.mp hfi
    have hSk : S k := (hm k).2 ((SKd.mem_iff g k).2 ⟨es.toList[j], List.getElem_mem hj, pj⟩)
    exact wpAny_pure (wpAny_pure (hQ _ s.heap (Heap.SameBut.refl a s.heap) ⟨o, es, ep, t, ⟨ho, hex, hd⟩, ⟨g, nd, fun i => ⟨fun z => (hm i).1 (z.elim id fun e => e ▸ hSk), fun z => .inl ((hm i).2 z)⟩⟩, ⟨by omega, room⟩, hf, hr, hl⟩))
  | none =>
    dsimp only
    have hnk : k ∉ es.toList.map D.ky := fun z => by
      obtain ⟨e, he, q⟩ := (SKd.mem_iff g k).1 z
      have c := List.findIdx?_eq_none_iff.mp hfi e he
      rw [q] at c
      cases c
    have hgw : ∀ (b : Bool) {z : Shared} {Q' : Unit → Shared → Prop}, Q' () z → wpAny (model P w) A (match b with | true => rule "set.scan.the-table-gave-way" | false => pure ()) Q' E z :=
      fun b z Q' q => by cases b <;> first | exact wpAny_pure q | exact wpAny_rule q
    have pm := layNew_perm t es (D.knd.hash k) x
    have f1 := layNew_fits t es (D.knd.hash k) x
    have r1 := layNew_ris t es (D.knd.hash k) x hr
    have l1 := layNew_led t es (D.knd.hash k) x
    generalize layNew t es (D.knd.hash k) x = Y at pm f1 r1 l1 ⊢
    obtain ⟨xs, t1, wd, gv⟩ := Y
    dsimp only at pm f1 r1 l1 ⊢
    rw [Array.toList_push] at pm
    have pc : xs.toList.Perm ((D.knd.hash k, x) :: es.toList) := pm.trans (List.perm_append_singleton _ _)
    have pk : (xs.toList.map D.ky).Perm (k :: es.toList.map D.ky) := by
      have q := pc.map D.ky
      rw [List.map_cons, show D.ky (D.knd.hash k, x) = k from D.back hx] at q
      exact q
    have g1 : (∀ e ∈ xs.toList, D.Good e) ∧ (xs.toList.map D.ky).Nodup ∧ ∀ i, (S i ∨ i = k) ↔ i ∈ xs.toList.map D.ky := by
      refine ⟨fun e he => ?_, pk.nodup_iff.mpr (List.nodup_cons.mpr ⟨hnk, nd⟩), fun i => ?_⟩
      · rcases List.mem_cons.mp (pc.mem_iff.mp he) with z | z
        · rw [z]; exact ⟨k, hx, rfl⟩
        · exact g e z
      · rw [pk.mem_iff, List.mem_cons, hm i]; exact Or.comm
    have hsz : xs.size ≤ n + 1 := by rw [← Array.length_toList, pc.length_eq, List.length_cons, Array.length_toList]; omega
    have led1 : w.params.followText "set-order" = true ∨ t1.led = true := hl.imp id fun z => by rw [l1]; exact z
    refine wpAny_bind (hgw _ ?_)
    split
    · refine wpAny_bind ?_
      rw [hashByValue_scannable 8 hsc]
      refine wpAny_pure (SKd.tail (n := n + 1) (fun b z Q' q => by cases b <;> first | exact wpAny_pure q | exact wpAny_rule q) ho hex hd g1 ⟨hsz, room⟩ ?_ ?_ ?_ fun h' sb r => by dsimp only; exact wpAny_pure (hQ _ h' sb r))
      · first | (split <;> first | exact f1 | exact SetTable.fits_plain_off f1) | exact f1
      · first | (split <;> exact r1) | exact r1
      · first | (split <;> exact led1) | exact led1
    · refine wpAny_bind (wpAny_pure ?_)
      simp only [↓reduceIte]
      exact SKd.tail (n := n + 1) (fun b z Q' q => by cases b <;> first | exact wpAny_pure q | exact wpAny_rule q) ho hex hd g1 ⟨hsz, room⟩ f1 r1 led1 fun h' sb r => by dsimp only; exact wpAny_pure (hQ _ h' sb r)

/-! ### 3. set(xs) -/
theorem SKd.loop {I : Addr} {fp wr : List Addr} {G : Array GenState → Array GenState → Prop} {m : Nat} {Pv : Nat → Value → Prop} {St : Nat → Shared → Prop} {R : Result → Shared → Prop}
    (W : WalksS P w A.in1 I fp wr G m Pv St) (T : Addr) (hT : T ∉ fp) (ks : List K) (hm : m = ks.length) (hb : ks.length + 1 < scanBound) (hv : ∀ (i : Nat) (v : Value), Pv i v → ∃ k, ks[i]? = some k ∧ D.knd.is k v = true) :
    ∀ (c i : Nat) (s : Shared), m - i = c → i ≤ m → St i s → D.At s.heap T (fun j => j ∈ ks.take i) i →
      (∀ s', Moved (T :: wr) G s s' → D.At s'.heap T (fun j => j ∈ ks) m → R (.ok (.ret .none)) s') → codeAny (model P w) A (.builtin "set.update.loop" ⟨[.ref T, .ref I], []⟩) R s := by
  have nT : T ∉ wr := fun h => hT (W.sub _ h)
  have up : ∀ b ∈ wr, b ∈ T :: wr := fun b => List.mem_cons_of_mem _
  intro c
  induction c with
  | zero =>
    intro i s hc hi hst hS hR
    obtain rfl : i = m := by omega
    refine codeAny_builtin F.entry_set_update_loop ?_
    rw [Around.under_plainId F.plain_set_update_loop _]
    show wpAny _ A.in1 (pyNext (.ref I) >>= _) _ _ s
    refine wpAny_bind (W.done s _ _ hst fun s' mv => ?_)
    show wpAny _ A.in1 (ret Value.none) _ _ s'
    rw [List.take_of_length_le (by omega)] at hS
    exact wpAny_pure (hR s' (mv.mono up) (hS.at fun o e => mv.heap T o nT e))
  | succ c ih =>
    intro i s hc hi hst hS hR
    have hlt : i < m := by omega
    refine codeAny_builtin F.entry_set_update_loop ?_
    rw [Around.under_plainId F.plain_set_update_loop _]
    show wpAny _ A.in1 (pyNext (.ref I) >>= _) _ _ s
    refine wpAny_bind (W.item i s _ _ hlt hst fun v s' hP hst' mv => ?_)
    obtain ⟨k, hk, hi'⟩ := hv i v hP
    have hS' : D.At s'.heap T (fun j => j ∈ ks.take i) i := hS.at fun o e => mv.heap T o nT e
    show wpAny _ A.in1 (holding [v] (setAdd T v) >>= _) _ _ s'
    refine wpAny_bind (wpAny_holding ?_)
    unfold setAdd
    refine wpAny_holding (wpAny_bind (D.knd.pyHash hi' ?_))
    refine SKd.add (s := { s' with toks := s'.toks + 1 }) hi' hS' (by omega) fun b h' sb r => ?_
    have r' : D.At h' T (fun j => j ∈ ks.take (i + 1)) (i + 1) := r.congr fun j => by
      rw [List.take_add_one, hk]
      simp [List.mem_append]
    refine wpAny_pure ⟨plainId_quiet F.plain_set_update_loop _, ih (i + 1) _ (by omega) hlt (W.frame _ s' _ _ hst' (Nat.le_succ _) fun b hb o e => ?_) r' fun s'' mv' r'' => ?_⟩
    · exact (sb.2 b fun h : b = T => hT (h ▸ hb)).trans e
    · exact hR s'' (Moved.trans W.gtrans ((mv.mono up).then_heap (Nat.le_succ _) fun b o hb e => (sb.2 b fun h : b = T => hb (h ▸ List.mem_cons_self)).trans e) mv') r''

theorem SKd.fresh {h : Heap} {a : Addr} {ks : List K} (ho : h.get? a = some { cls := .type "set", dict := none, data := .set #[] 0 (.fresh 0 0 (!w.params.followText "set-order")) }) : D.At h a (fun j => j ∈ ks.take 0) 0 :=
  ⟨_, #[], 0, _, ⟨ho, ⟨rfl, rfl, rfl⟩, rfl⟩, ⟨fun e he => by simp at he, by simp, fun k => by simp⟩, ⟨Nat.le_refl _, by decide⟩, by rfl, List.Pairwise.nil, by
    cases e : w.params.followText "set-order"
    · exact .inr rfl
    · exact .inl rfl⟩
end
end VM
/-! sorted(set(xs)): the calls. -/
namespace VM
open PySem PySem.Spec L2 PyProof.Rows
/-! ### in plain words -/
def insU {K : Type} (lt : K → K → Bool) (x : K) : List K → List K
  | [] => [x]
  | y :: ys => if lt x y then x :: y :: ys else if lt y x then y :: insU lt x ys else y :: ys
def sortU {K : Type} (lt : K → K → Bool) : List K → List K
  | [] => []
  | x :: xs => insU lt x (sortU lt xs)
section
variable {P : Program} {w : World} {K : Type} [DecidableEq K] {D : SKd P w K} {A : Around} {E : Value → Shared → Prop} {s : Shared}
set_option maxRecDepth 100000 in
set_option maxHeartbeats 3200000 in
theorem SKd.make {l : Addr} {items : Array Value} (ks : List K) {Q : Value → Shared → Prop} (hh : A.handled = none) (hl : s.heap.IsList l items) (hit : ∀ (i : Nat) (v : Value), items[i]? = some v → ∃ k, ks[i]? = some k ∧ D.knd.is k v = true) (hz : items.size = ks.length) (hb : ks.length + 1 < scanBound)
    (h : ∀ (h' : Heap) (tk : Nat), D.At h' s.heap.objs.size (fun j => j ∈ ks) ks.length → (∀ b o, s.heap.get? b = some o → h'.get? b = some o) → Q (.ref s.heap.objs.size) { s with heap := h', toks := tk }) :
    wpAny (model P w) A (call (.type "set") [.ref l]) Q E s := by
  obtain ⟨c, tl, hmro⟩ := F.called_set.mro
  have made := F.called_set.made
  have sub := F.called_set.sub
  refine wpAny_call (codeAny_of_tree ?_)
  show wpAny _ _ (callAny (.type "set") _) _ _ _
  refine wpAny_pure ⟨Code.quiet_builtin _ (by decide +kernel), codeAny_builtin F.entry_type_call ?_⟩
  rw [Around.under_plain (weight_type_call_type "set" [.ref l] []) rfl]
  have h1 := F.called_set.notType
  have h2 := F.called_set.canCreate
  have hct := F.typeCall_set_1 (.ref l)
  repeat (any_goals (first | assumption | wp_step))
  generalize eN : ({ cls := .type "set", dict := none, data := .set #[] 0 (.fresh 0 0 (!w.params.followText "set-order")) } : Obj) = N
  have cN : N.cls = .type "set" := by rw [← eN]
  refine codeAny_mono (code_set_led1 (.ref l) (E := E) (Q₁ := fun obj z => obj = .ref s.heap.objs.size ∧ z = { s with heap := s.heap.push N }) (by rw [eN]; exact ⟨rfl, rfl⟩)) fun r z hr => ?_
  cases r with
  | error e => exact hr
  | ok fl =>
    cases fl with
    | ret obj =>
      obtain ⟨rfl, rfl⟩ := hr
      have hS : (s.heap.push N).get? s.heap.objs.size = some N := Heap.get?_push_size _ (by rw [← eN] <;> rfl)
      have hT : Shared.TypeIs { s with heap := s.heap.push N } (.ref s.heap.objs.size) "set" := ⟨_, hS, cN⟩
      have hli := F.called_set.init.lookup
      have hbi := F.called_set.init.bind (.ref s.heap.objs.size)
      repeat (any_goals (first | assumption | wp_step))
      refine codeAny_mono (codeAny_call_builtin (R := wants (fun r z => r = .none ∧ ∃ h' tk, z = { s with heap := h', toks := tk } ∧ D.At h' s.heap.objs.size (fun j => j ∈ ks) ks.length ∧
          ∀ b o, s.heap.get? b = some o → h'.get? b = some o) E) F.called_set.init.plain F.entry_set_init (check_set_init_1 hT ?_)) fun r₂ z₂ hr₂ => ?_
      · obtain ⟨ol, hol, hcl, nl, hdl⟩ := hl
        have hol' : (s.heap.push N).get? l = some ol := Heap.get?_push_of_some _ hol
        obtain ⟨ocls, odict, odata, oslots⟩ := ol
        simp only at hcl hdl
        subst hcl
        subst hdl
        have hsls := F.sub_list_set
        have hslf := F.sub_list_frozenset
        have hne : (Value.type "list" == Value.type "dict") = false := by decide
        have hlS : l < s.heap.objs.size := Heap.lt_size hol
        have hh3 : A.in1.in1.in1.handled = none := by simp [hh]
        have z1 : ∀ N : Obj, (s.heap.push N).objs.size = s.heap.objs.size + 1 := fun _ => Heap.size_push ..
        have nI : ∀ N : Obj, l ≠ (s.heap.push N).objs.size := fun N => by rw [z1]; exact Nat.ne_of_lt (Nat.lt_succ_of_lt hlS)
        have nS : ∀ N : Obj, s.heap.objs.size ∉ [(s.heap.push N).objs.size, l] := fun N => by
          rw [z1]
          simp only [List.mem_cons, List.not_mem_nil, or_false, not_or]
          exact ⟨Nat.ne_of_lt (Nat.lt_succ_self _), Nat.ne_of_gt hlS⟩
        have hl1 : (s.heap.push N).IsList l items := ⟨_, hol', rfl, nl, rfl⟩
        subst eN
        unfold Builtin.«set.__init__» noKeywords Builtin.Frozenset.updateFrom
        generalize hPI : pyIter = PI
        wp_walk
        subst hPI
        refine wpAny_pyIter_list hl1 ?_
        refine wpAny_bind (wpAny_runValue ?_)
        refine SKd.loop (D := D) ((Walks.list hh3 _ l (nI _) items).toS) s.heap.objs.size (nS _) ks hz hb hit (items.size - 0) 0 _ (by omega) (Nat.zero_le _) ⟨⟨_, Heap.get?_push_size _ rfl, rfl, rfl⟩, (hl1.push _)⟩ ?hS0 ?hR
        case hS0 =>
          exact SKd.fresh (Heap.get?_push_of_some _ hS)
        case hR =>
          intro s' hm hS'
          obtain ⟨h', g2, d', tk', os'⟩ := s'
          have eg : g2 = s.gens := hm.gens
          have ed : d' = s.drawn := hm.drawn
          have eo : os' = s.os := hm.os
          subst eg
          subst ed
          subst eo
          show wpAny _ _ _ _ _ _
          refine wpAny_pure ?_
          show wpAny _ _ (ret Value.none) _ _ _
          rw [hz] at hS'
          refine wpAny_pure ⟨rfl, h', tk', rfl, hS', fun b o e => ?_⟩
          have b0 : b < s.heap.objs.size := Heap.lt_size e
          refine hm.heap b o ?_ (Heap.get?_push_of_some _ (Heap.get?_push_of_some _ e))
          simp only [List.mem_cons, List.not_mem_nil, or_false, not_or]
          exact ⟨Nat.ne_of_lt b0, by rw [z1]; exact Nat.ne_of_lt (Nat.lt_succ_of_lt b0)⟩
      · cases r₂ with
        | error e => exact hr₂
        | ok fl₂ =>
          cases fl₂ with
          | ret r =>
            obtain ⟨rfl, h', tk, rfl, hS', hk'⟩ := hr₂
            repeat (any_goals (first | assumption | wp_step))
            exact h _ _ hS' hk'
          | _ => exact hr₂.elim
    | _ => exact hr.elim

/-! ### the order -/
def SKd.ltv (D : SKd P w K) (v u : Value) : Bool := D.lt (D.bk v) (D.bk u)
theorem SKd.swo (D : SKd P w K) : SrtO.Swo D.ltv := by
  refine ⟨fun x y h => ?_, fun x y z h1 h2 => ?_⟩
  · cases e : D.ltv y x with
    | false => rfl
    | true => exact absurd (D.tra _ _ _ h e) (by rw [D.irr]; simp)
  · cases e : D.ltv z x with
    | false => rfl
    | true =>
      have h1 : D.lt (D.bk y) (D.bk x) = false := h1
      have h2 : D.lt (D.bk z) (D.bk y) = false := h2
      have e : D.lt (D.bk z) (D.bk x) = true := e
      cases q : D.lt (D.bk x) (D.bk y) with
      | true => exact absurd (D.tra _ _ _ e q) (by rw [h2]; simp)
      | false =>
        rw [D.tri _ _ q h1] at e
        rw [h2] at e; cases e
theorem SKd.sortable {a : Addr} {vs : List Value} (hv : ∀ v ∈ vs, D.knd.is (D.bk v) v = true) (h2 : 2 ≤ vs.length) : SrtO.SortableO P w A s a vs D.ltv := by
  intro h' _
  refine ⟨oneType', fun Q E hq => ?_, fun p q hm hm' => ?_⟩
  · match vs, hv, h2 with
    | v1 :: v2 :: rest, hv, _ => rw [D.kin hv]; exact wpAny_pure hq
    | [], _, h => exact absurd h (by decide)
    | [v], _, h => exact absurd h (by simp)
  · show wpAny (model P w) A (keyLt' oneType' p.1 q.1) (fun r s' => s' = _ ∧ r = D.ltv p.1 q.1) (fun _ _ => False) _
    rw [keyLt'_oneType]
    exact D.one (hv _ hm) (hv _ hm') ⟨rfl, rfl⟩
theorem SKd.srtd {a : Addr} {S : K → Prop} {n : Nat} {Q : Value → Shared → Prop} (R : D.At s.heap a S n) (hh : A.handled = none)
    (hQ : ∀ s' p (out : Array Value) (c : Nat), (∀ b o, s.heap.get? b = some o → s'.heap.get? b = some o) → s'.gens = s.gens → s'.os = s.os → s.heap.objs.size ≤ p →
      s'.heap.get? p = some (seqObj "list" out c) → (∀ v ∈ out.toList, D.knd.is (D.bk v) v = true) → (out.toList.map D.bk).Pairwise (fun x y => D.lt x y = true) → (∀ k, k ∈ out.toList.map D.bk ↔ S k) → Q (.ref p) s') :
    wpAny (model P w) A (call (.builtin "sorted") [.ref a]) Q E s := by
  obtain ⟨o, es, ep, t, ⟨ho, hex, hd⟩, ⟨g, nd, hm⟩, ⟨hn, hb⟩, hf, hr, hl⟩ := R
  have hbs : es.size < scanBound := Nat.lt_of_le_of_lt hn hb
  refine Calls.call_function_entry kind_sorted plain_sorted entry_sorted (args_sorted1 _) ?_
  unfold Builtin.«sorted»
  refine wpAny_bind (m := checkCount "sorted" 1 1 _) (wpAny_pure ?_)
  refine wpAny_bind (collect_set (A := A.in1) hh ⟨o, ho, hex.1, hd⟩ hf hbs hr hl fun s1 vs k1 hz g1 o1 pm => ?_)
  have hvl : vs.length ≤ sizeLine := by
    rw [pm.length_eq, List.length_map, Array.length_toList]
    exact fits_of_scanBound hbs
  have hv : ∀ v ∈ vs, D.knd.is (D.bk v) v = true := fun v hv => by
    obtain ⟨e, he, rfl⟩ := List.mem_map.mp (pm.mem_iff.mp hv)
    exact (SKd.is_iff (g e he) _).2 rfl
  have pk : (vs.map D.bk).Perm (es.toList.map D.ky) := by
    have q := pm.map D.bk
    rw [List.map_map] at q
    exact q
  refine wpAny_bind (wpAny_newList ?_ hvl)
  have hoL : (s1.heap.push (seqObj "list" vs.toArray 0)).get? s1.heap.objs.size = some (seqObj "list" vs.toArray 0) := Heap.get?_push_size _ rfl
  refine wpAny_bind (wpAny_holding (wpAny_call_entry slot_list_sort ⟨_, hoL, rfl⟩ entry_list_sort (SrtO.list_sort_ord D.swo hoL hvl (fun h2 => SKd.sortable hv h2) fun out hs hb' => ⟨_, rfl, ?_⟩) (args_list_sort _)))
  obtain ⟨c, hc⟩ := sortedHeap_at (vs := vs) (out := out.toArray) hoL
  have pn : (out.map D.bk).Perm (es.toList.map D.ky) := (hb'.perm.map D.bk).trans pk
  refine wpAny_pure ⟨_, rfl, hQ _ s1.heap.objs.size out.toArray c (fun b u e => ?_) g1 o1 hz hc (fun v h => hv v (hb'.perm.mem_iff.mp (by simpa using h))) ?_ (fun k => ?_)⟩
  · have q := k1 b u e
    have hlt := Heap.lt_size q
    show (sortedHeap (s1.heap.push (seqObj "list" vs.toArray 0)) s1.heap.objs.size vs out.toArray).get? b = some u
    rw [sortedHeap_old (Nat.ne_of_lt hlt) (by rw [size_push']; exact Nat.lt_succ_of_lt hlt)]
    exact Heap.get?_push_of_some _ q
  · have nd' := pn.nodup_iff.mpr nd
    have hs' : (out.map D.bk).Pairwise fun x y => D.lt y x = false := List.pairwise_map.mpr hs
    show (out.map D.bk).Pairwise _
    refine (hs'.and nd').imp fun {x y} h => ?_
    cases q : D.lt x y with
    | true => rfl
    | false => exact absurd (D.tri _ _ q h.1) h.2
  · show k ∈ out.map D.bk ↔ S k
    rw [pn.mem_iff, ← hm k]

theorem SKd.mem_ins {k x : K} : ∀ {l : List K}, k ∈ insU D.lt x l ↔ k = x ∨ k ∈ l
  | [] => by simp [insU]
  | y :: ys => by
    unfold insU
    by_cases h1 : D.lt x y = true
    · rw [if_pos h1, List.mem_cons]
    · rw [if_neg h1]
      by_cases h2 : D.lt y x = true
      · rw [if_pos h2, List.mem_cons, SKd.mem_ins (l := ys), List.mem_cons]
        exact ⟨fun h => h.elim (fun h => .inr (.inl h)) fun h => h.elim .inl fun h => .inr (.inr h), fun h => h.elim (fun h => .inr (.inl h)) fun h => h.elim .inl fun h => .inr (.inr h)⟩
      · rw [if_neg h2]
        have e : x = y := D.tri _ _ (by simpa using h1) (by simpa using h2)
        subst e
        exact ⟨.inr, fun h => h.elim (fun h => h ▸ List.mem_cons_self) id⟩
theorem SKd.mem_sort {k : K} : ∀ {l : List K}, k ∈ sortU D.lt l ↔ k ∈ l
  | [] => by simp [sortU]
  | x :: l => by rw [sortU, SKd.mem_ins, SKd.mem_sort, List.mem_cons]
theorem SKd.ins_up {x : K} : ∀ {l : List K}, l.Pairwise (fun a b => D.lt a b = true) → (insU D.lt x l).Pairwise fun a b => D.lt a b = true
  | [], _ => List.pairwise_singleton _ _
  | y :: ys, h => by
    obtain ⟨a, b⟩ := List.pairwise_cons.mp h
    unfold insU
    by_cases h1 : D.lt x y = true
    · rw [if_pos h1]
      refine List.pairwise_cons.mpr ⟨fun z hz => ?_, h⟩
      rcases List.mem_cons.mp hz with rfl | hz
      · exact h1
      · exact D.tra _ _ _ h1 (a z hz)
    · rw [if_neg h1]
      by_cases h2 : D.lt y x = true
      · rw [if_pos h2]
        refine List.pairwise_cons.mpr ⟨fun z hz => ?_, SKd.ins_up b⟩
        rcases SKd.mem_ins.mp hz with rfl | hz
        · exact h2
        · exact a z hz
      · rw [if_neg h2]; exact h
theorem SKd.sort_up : ∀ {l : List K}, (sortU D.lt l).Pairwise fun a b => D.lt a b = true
  | [] => List.Pairwise.nil
  | x :: l => SKd.ins_up SKd.sort_up
theorem SKd.uniq : ∀ {l m : List K}, l.Pairwise (fun a b => D.lt a b = true) → m.Pairwise (fun a b => D.lt a b = true) → (∀ k, k ∈ l ↔ k ∈ m) → l = m
  | [], [], _, _, _ => rfl
  | [], y :: m, _, _, h => absurd ((h y).2 List.mem_cons_self) (by simp)
  | x :: l, [], _, _, h => absurd ((h x).1 List.mem_cons_self) (by simp)
  | x :: l, y :: m, h1, h2, h => by
    obtain ⟨a1, a2⟩ := List.pairwise_cons.mp h1
    obtain ⟨b1, b2⟩ := List.pairwise_cons.mp h2
    have no : ∀ k, D.lt k k = true → False := fun k q => by rw [D.irr] at q; cases q
    have e : x = y := by
      rcases List.mem_cons.mp ((h x).1 List.mem_cons_self) with e | hx
      · exact e
      · rcases List.mem_cons.mp ((h y).2 List.mem_cons_self) with e | hy
        · exact e.symm
        · exact (no x (D.tra _ _ _ (a1 y hy) (b1 x hx))).elim
    subst e
    rw [SKd.uniq a2 b2 fun k => ⟨fun hk => ?_, fun hk => ?_⟩]
    · rcases List.mem_cons.mp ((h k).1 (List.mem_cons_of_mem _ hk)) with e | q
      · subst e; exact (no _ (a1 _ hk)).elim
      · exact q
    · rcases List.mem_cons.mp ((h k).2 (List.mem_cons_of_mem _ hk)) with e | q
      · subst e; exact (no _ (b1 _ hk)).elim
      · exact q
end
end VM
/-! sorted(set(xs)) as a word of the VM. -/
namespace VM
open PySem PySem.Spec L2 PyProof.Rows
def kInt (P : Program) (w : World) : SKd P w Int where
  knd := PySem.intKind P w
  bk := fun v => match v with | .int k _ => k | _ => 0
  toV := V.int
  back := fun {k v} h => by obtain ⟨t, rfl⟩ := Value.isInt_shape (k := k) h; rfl
  scn := fun {k v} h => by obtain ⟨t, rfl⟩ := Value.isInt_shape (k := k) h; rfl
  rel := fun {k v} => ⟨fun h => Value.isInt_shape (k := k) h, fun ⟨t, h⟩ => by rw [h]; exact intKind_is P w k t⟩
  lt := fun a b => decide (a < b)
  irr := fun a => by simp
  tra := fun a b c h1 h2 => by simp only [decide_eq_true_eq] at *; omega
  tri := fun a b h1 h2 => by simp only [decide_eq_false_iff_not] at *; omega
  one := fun {A E s a b u v Q} hu hv h => by
    obtain ⟨t, rfl⟩ := Value.isInt_shape (k := a) hu
    obtain ⟨t', rfl⟩ := Value.isInt_shape (k := b) hv
    exact oneLt_int h
  kin := fun {v1 v2 vs} h => by
    refine keyKind_ints (ns := (v1 :: v2 :: vs).map SrtO.iv) (SrtO.ints_iv fun v hv => ?_)
    obtain ⟨t, e⟩ := Value.isInt_shape (h v hv)
    exact ⟨_, t, e⟩
def ltS (a b : Str) : Bool := decide (a.cps.toList < b.cps.toList)
def kStr (P : Program) (w : World) : SKd P w Str where
  knd := PySem.strKind P w
  bk := PyProof.Rows.strOf
  toV := V.str
  back := fun {k v} h => by obtain ⟨t, rfl⟩ := Value.isStrOf_shape (x := k) h; rfl
  scn := fun {k v} h => by obtain ⟨t, rfl⟩ := Value.isStrOf_shape (x := k) h; rfl
  rel := fun {k v} => ⟨fun h => Value.isStrOf_shape (x := k) h, fun ⟨t, h⟩ => by rw [h]; exact strKind_is P w k t⟩
  lt := ltS
  irr := fun a => PyProof.Rows.strKind.irrefl a.cps.toList
  tra := fun a b c h1 h2 => PyProof.Rows.strKind.trans a.cps.toList b.cps.toList c.cps.toList h1 h2
  tri := fun a b h1 h2 => by
    have e : a.cps.toList = b.cps.toList := PyProof.Rows.strKind.total a.cps.toList b.cps.toList h1 h2
    cases a; cases b
    exact congrArg Str.mk (Array.toList_inj.mp e)
  one := fun {A E s a b u v Q} hu hv h => by
    obtain ⟨t, rfl⟩ := Value.isStrOf_shape (x := a) hu
    obtain ⟨t', rfl⟩ := Value.isStrOf_shape (x := b) hv
    exact oneLt_str h
  kin := fun {v1 v2 vs} h => by
    refine keyKind_strs (ss := (v1 :: v2 :: vs).map PyProof.Rows.strOf) (strsAre_map _ fun v hv => ?_)
    obtain ⟨t, e⟩ := Value.isStrOf_shape (h v hv)
    exact ⟨_, t, e⟩
def ltI (a b : Int) : Bool := decide (a < b)

def rSS (K : PySem.W.Frag) : List V → Hp → VK → Prop := fun vs H Q => ∃ a, vs = [V.ref a] ∧
  ((∃ ks : List Int, SqL K H a (ks.map V.int) ∧ ks.length < 4000 ∧ ∀ p, H p = none → Q (.ref p) (upd H p (.lst ((sortU ltI ks).map V.int)))) ∨
   (∃ ks : List Str, SqL K H a (ks.map V.str) ∧ ks.length < 4000 ∧ ∀ p, H p = none → Q (.ref p) (upd H p (.lst ((sortU ltS ks).map V.str)))))
section
variable {X : Cx} {pins : List (Addr × Obj)} {σ : L2.St} {H : Hp} {s : Shared} {K : Type} [DecidableEq K]
theorem vals_keys (D : SKd X.prog X.w K) : ∀ {out : List Value}, (∀ v ∈ out, D.knd.is (D.bk v) v = true) → Vals ((out.map D.bk).map D.toV) out
  | [], _ => .nil
  | v :: out, h => .cons (D.rel.mp (h v List.mem_cons_self)) (vals_keys D fun u hu => h u (List.mem_cons_of_mem _ hu))
theorem keys_at (D : SKd X.prog X.w K) : ∀ {ks : List K} {us : List Value}, Vals (ks.map D.toV) us → ∀ (i : Nat) (v : Value), us[i]? = some v → ∃ k, ks[i]? = some k ∧ D.knd.is k v = true
  | [], _, .nil, i, v, h => by simp at h
  | k :: ks, _, .cons r t, 0, v, h => by simp at h; subst h; exact ⟨k, rfl, D.rel.mpr r⟩
  | k :: ks, _, .cons r t, i + 1, v, h => by simpa using keys_at D t i v (by simpa using h)
theorem len_ins {lt : K → K → Bool} {x : K} : ∀ {l : List K}, (insU lt x l).length ≤ l.length + 1
  | [] => by simp [insU]
  | y :: ys => by
    unfold insU
    split
    · simp
    · split
      · have := len_ins (lt := lt) (x := x) (l := ys); simp; omega
      · simp
theorem len_sort {lt : K → K → Bool} : ∀ {l : List K}, (sortU lt l).length ≤ l.length
  | [] => by simp [sortU]
  | x :: l => by
    have h1 := len_ins (lt := lt) (x := x) (l := sortU lt l)
    have h2 := len_sort (lt := lt) (l := l)
    rw [sortU, List.length_cons]; omega
/-- both calls -/
theorem sset_go (D : SKd X.prog X.w K) {a : Addr} {ks : List K} {Q : VK} {pos : Pos} (hc : X.calm = true) (I : Inv X pins σ H s) (hq : SqL X.K H a (ks.map D.toV)) (hl : ks.length < 4000)
    (q : ∀ p, H p = none → Q (.ref p) (upd H p (.lst ((sortU D.lt ks).map D.toV)))) :
    wpAny (model X.prog X.w) X.A (call (.type "set") [.ref a]) (fun v z => wpAny (model X.prog X.w) X.A (spliced (backTo pos (starEach [] X.env))) (fun vs z' => wpAny (model X.prog X.w) X.A (call (.builtin "sorted") (v :: vs)) (EP X pins σ Q) X.xe z') X.xe z) X.xe s := by
  obtain ⟨its, r, pl, hz⟩ := I.list hq
  refine SKd.make (D := D) ks (I.ok.hd hc) pl.isList (fun i v h => keys_at D r i v (by simpa using h)) (by rw [List.size_toArray, ← r.length, List.length_map]) (by unfold scanBound; omega) fun h' tk hS hk => ?_
  refine PyProof.Rows.args_nil ?_
  have I2 : Inv X pins σ H { s with heap := h', toks := tk } := I.kept hk
  refine SKd.srtd hS (I2.ok.hd hc) fun s' p out c k g o hp hg hv hs hm => ?_
  have e : out.toList.map D.bk = sortU D.lt ks := SKd.uniq (D := D) hs SKd.sort_up fun j => (hm j).trans (SKd.mem_sort (D := D)).symm
  have rv := vals_keys D hv
  rw [e] at rv
  have hlen : ((sortU D.lt ks).map D.toV).length ≤ sizeLine := by
    have := len_sort (lt := D.lt) (l := ks)
    rw [List.length_map, sizeLine_eq]; omega
  have hn : H p = none := I2.hok.fresh hp
  have J : Inv X pins σ (upd H p (.lst ((sortU D.lt ks).map D.toV))) s' := I2.call' (ch := []) o (Un.laid k hp hn) (I2.hok.laid k hp ⟨hlen, out.toList, c, rv, hg⟩) (by rw [g]; exact I2.bare) (fun _ z => nomatch z)
  exact ⟨.ref p, _, J, rfl, q p hn⟩
theorem pe_sset {e : Expr} {ta : TA} {p p2 q pos : Pos} (hc : X.calm = true) (hg : Gl X "sorted") (hm : X.mg "sorted" = none) (hg2 : Gl X "set") (hm2 : X.mg "set" = none) (ha : PA X [e] ta)
    (na : starEach [e] X.env = (false, eval e X.env) :: starEach [] X.env := by rfl) : PE X (.Call (.Name "sorted" p) [.Call (.Name "set" p2) [e] [] q] [] pos) (tCB (rSS X.K) ta) := by
  refine ⟨fun pins s σ H Q I h => ?_⟩
  refine Call_ (ld_blt I hg hm boot_sorted ?_)
  refine PyProof.Rows.callWith_builtin1 (PyProof.Rows.args_cons ?_ rfl) rfl rfl
  refine Call_ (ld_blt I hg2 hm2 boot_set ?_)
  refine PyProof.Rows.callWith_type1 (thn (ha.run q pins s σ H _ I h) fun us s1 ⟨vs, H1, I1, r1, q1⟩ => ?_) na rfl
  obtain ⟨a, rfl, q1⟩ := q1
  rw [Vals.ref1 r1]
  rcases q1 with ⟨ks, hq, hl, q⟩ | ⟨ks, hq, hl, q⟩
  · exact sset_go (kInt X.prog X.w) hc I1 hq hl q
  · exact sset_go (kStr X.prog X.w) hc I1 hq hl q
end
/-! on trees -/
def strsD : List D → Option (List Str)
  | [] => some []
  | .str i :: ds => (strsD ds).map (i :: ·)
  | _ :: _ => none
theorem strsD_eq : ∀ {ds : List D} {ns : List Str}, strsD ds = some ns → ds = ns.map .str
  | [], ns, h => by cases h; rfl
  | d :: ds, ns, h => by
    cases d <;> simp only [strsD, reduceCtorEq] at h
    cases e : strsD ds with
    | none => rw [e] at h; cases h
    | some m =>
      rw [e] at h
      cases h
      rw [strsD_eq e]; rfl
def fSset : List D → Option EV
  | [.lst ds] => if ds.length < 4000 then (match intsD ds with
    | some ns => some (.new (.lst ((sortU ltI ns).map .int)))
    | none => (strsD ds).map fun ns => .new (.lst ((sortU ltS ns).map .str))) else none
  | _ => none
section
variable {K : PySem.W.Frag} {L : Addr → Prop} {H : Hp}
theorem reps_flat {κ : Type} {f : κ → D} {g : κ → V} (hf : ∀ k v, Rep K L H (f k) v → v = g k) : ∀ {ks : List κ} {vs : List V}, Reps K L H (ks.map f) vs → vs = ks.map g
  | [], vs, r => r.invN
  | k :: ks, vs, r => by
    obtain ⟨v, rs, rfl, h1, h2⟩ := r.inv
    rw [List.map_cons, reps_flat hf h2, hf k v h1]
theorem flat_reps {κ : Type} {f : κ → D} {g : κ → V} (hf : ∀ k, Rep K L H (f k) (g k)) : ∀ ks : List κ, Reps K L H (ks.map f) (ks.map g)
  | [] => Reps.nil
  | k :: ks => Reps.cons (hf k) (flat_reps hf ks)
end
theorem on_sset {K : PySem.W.Frag} : OpN K fSset (rSS K) := by
  intro Acc ι μ H ds xs e Q S r h q
  cases ds with
  | nil => cases h
  | cons d t =>
    cases t with
    | cons _ _ => cases d <;> cases h
    | nil =>
      obtain ⟨v, rs, rfl, h1, h2⟩ := r
      have h2 : rs = [] := h2
      subst h2
      cases d <;> try (cases h; done)
      rename_i ds
      obtain ⟨a, vs, rfl, tp, rp⟩ := seeL h1
      simp only [fSset] at h
      split at h
      case isFalse => cases h
      case isTrue hz =>
        have fi : ∀ (k : Int) v, Rep K (Liv Acc μ ι) H (.int k) v → v = V.int k := fun k v r => by simpa only [Rep] using r
        have fs : ∀ (k : Str) v, Rep K (Liv Acc μ ι) H (.str k) v → v = V.str k := fun k v r => by simpa only [Rep] using r
        refine ⟨a, rfl, ?_⟩
        cases hT : intsD ds with
        | some ns =>
          rw [hT] at h
          cases h
          have ed := intsD_eq hT
          subst ed
          have ev := reps_flat fi rp
          subst ev
          refine .inl ⟨ns, SqL.of tp, by simpa using hz, fun p np => ?_⟩
          have rr : Reps K (Liv Acc μ ι) H ((sortU ltI ns).map D.int) ((sortU ltI ns).map V.int) := flat_reps (fun k => by simp only [Rep]) _
          exact q (.ref p) _ (S.up np _) ⟨⟨p, rfl, np, S.newL np rr⟩, S.ownN np rr⟩
        | none =>
          rw [hT] at h
          simp only at h
          cases hS : strsD ds with
          | none => rw [hS] at h; cases h
          | some ns =>
            rw [hS] at h
            cases h
            have ed := strsD_eq hS
            subst ed
            have ev := reps_flat fs rp
            subst ev
            refine .inr ⟨ns, SqL.of tp, by simpa using hz, fun p np => ?_⟩
            have rr : Reps K (Liv Acc μ ι) H ((sortU ltS ns).map D.str) ((sortU ltS ns).map V.str) := flat_reps (fun k => by simp only [Rep]) _
            exact q (.ref p) _ (S.up np _) ⟨⟨p, rfl, np, S.newL np rr⟩, S.ownN np rr⟩
section
variable {X : Cx} {XC : Nat → Addr} {F : Fns} {W : WX} {e : Expr} {fs : SA} {p p2 q pos : Pos}
theorem w_sset (hm : X.mg "sorted" = none) (hm2 : X.mg "set" = none) (ha : PA X [e] (rdA X.K XC F W fs)) (hc : X.calm = true := by rfl) (hg : Gl X "sorted" := by rfl) (hg2 : Gl X "set" := by rfl)
    (na : starEach [e] X.env = (false, eval e X.env) :: starEach [] X.env := by rfl) : PE X (.Call (.Name "sorted" p) [.Call (.Name "set" p2) [e] [] q] [] pos) (rdE X.K XC F W (eCb fSset fs)) :=
  PEimp (pe_sset hc hg hm hg2 hm2 ha na) fun _ _ _ h => callN_ok on_sset h
end
end VM
/-! list(zip(a, b)), a and b tuples: the machine's steps. -/
namespace VM
open PySem PySem.Spec L2 PyProof.Rows
section
variable {prog : Program} {w : World} {A : Around} {E : Value → Shared → Prop} {s : Shared}
theorem zt_item {z TI TO T i1 i2 l1 l2 : Addr} {f : Bool} {oT : Obj} {k1 k2 : Nat} {xs ys : Array Value} {x y : Value} {Q : Value → Shared → Prop} (D : ZipApart z TI TO i1 i2 l1 l2)
    (hz : IsZipHeld s.heap z TI TO T f) (hT : s.heap.get? T = some oT) (hTI : IsPair s.heap TI (.ref i1) (.ref i2)) (h1 : s.heap.IsTupleIter i1 l1 k1) (h2 : s.heap.IsTupleIter i2 l2 k2)
    (hl1 : s.heap.IsTuple l1 xs) (hl2 : s.heap.IsTuple l2 ys) (hx : xs[k1]? = some x) (hy : ys[k2]? = some y)
    (hQ : ∀ h', IsZipHeld h' z TI TO T true → h'.IsTupleIter i1 l1 (k1 + 1) → h'.IsTupleIter i2 l2 (k2 + 1) → IsPair h' s.heap.objs.size x y → h'.objs.size = s.heap.objs.size + 1 →
      (∀ c o, c ≠ z → c ≠ i1 → c ≠ i2 → s.heap.get? c = some o → h'.get? c = some o) → Q (.ref s.heap.objs.size) { s with heap := h' }) :
    wpAny (model prog w) A (Builtin.«zip.__next__» ⟨[.ref z], []⟩) (fun fin s' => ∃ v, fin = .done (.ret v) ∧ Q v s') E s := by
  show wpAny _ _ (field (.ref z) 2 >>= _) _ _ _
  refine wpAny_bind (wpAny_field hz rfl (x := .bool false) rfl ?_)
  show wpAny _ _ (field (.ref z) 3 >>= _) _ _ _
  refine wpAny_bind (wpAny_field hz rfl (x := .ref TI) rfl (wpAny_bind (wpAny_seqItems hTI rfl ?_)))
  show wpAny _ _ (Builtin.SmallTypes.ownedTupleIsFree (.ref z) >>= _) _ _ _
  refine wpAny_bind (wpAny_tupleHeld_zip hz hT fun g1 z1 b1 => ?_)
  simp only [Bool.false_eq_true, if_false]
  refine wpAny_bind ?_
  rw [← Array.forIn_toList]
  simp only [List.forIn_cons, List.forIn_nil]
  refine wpAny_bind (wpAny_bind (wpAny_holding ?_))
  show wpAny _ _ (Builtin.SmallTypes.nextOf (.ref i1) >>= _) _ _ _
  refine wpAny_bind (RZ.nextOf_tuple_item (s := { s with heap := g1 }) (h1.extBut b1.extBut D.i1z) (hl1.extBut b1.extBut D.l1z) hx fun g2 j1 b2 => wpAny_pure (wpAny_pure ?_))
  refine wpAny_bind (wpAny_bind (wpAny_holding ?_))
  show wpAny _ _ (Builtin.SmallTypes.nextOf (.ref i2) >>= _) _ _ _
  refine wpAny_bind (RZ.nextOf_tuple_item (s := { s with heap := g2 }) ((h2.extBut b1.extBut D.i2z).extBut b2.extBut D.i12.symm) ((hl2.extBut b1.extBut D.l2z).extBut b2.extBut D.l2i1) hy fun g3 j2 b3 => wpAny_pure (wpAny_pure (wpAny_pure ?_)))
  show wpAny _ _ (newTuple [x, y] >>= _) _ _ _
  refine wpAny_bind (wpAny_newTuple ?_)
  have sz : g3.objs.size = s.heap.objs.size := by rw [b3.1, b2.1, b1.1]
  have z3 : IsZipHeld g3 z TI TO T true := b3.extBut _ _ D.i2z.symm (b2.extBut _ _ D.i1z.symm z1)
  have kp : ∀ c o, c ≠ z → c ≠ i1 → c ≠ i2 → s.heap.get? c = some o → g3.get? c = some o := fun c o c1 c2 c3 e => b3.extBut _ _ c3 (b2.extBut _ _ c2 (b1.extBut _ _ c1 e))
  have j1' : g3.IsTupleIter i1 l1 (k1 + 1) := j1.extBut b3.extBut D.i12
  refine wpAny_pure ⟨_, rfl, ?_⟩
  show Q (.ref g3.objs.size) _
  have hp : IsPair (g3.push { cls := .type "tuple", data := .seq #[x, y] }) g3.objs.size x y := Heap.get?_push_size _ rfl
  have s4 : (g3.push { cls := .type "tuple", data := .seq #[x, y] }).objs.size = g3.objs.size + 1 := Heap.size_push ..
  rw [sz] at hp s4 ⊢
  exact hQ _ (Heap.get?_push_of_some _ z3) (j1'.at fun o e => Heap.get?_push_of_some _ e) (j2.at fun o e => Heap.get?_push_of_some _ e) hp s4 fun c o c1 c2 c3 e => Heap.get?_push_of_some _ (kp c o c1 c2 c3 e)

theorem zt_end {z TI TO T i1 i2 l1 l2 : Addr} {f : Bool} {oT : Obj} {k1 k2 : Nat} {xs ys : Array Value} {Q : Fin → Shared → Prop} (hh : A.handled = none) (D : ZipApart z TI TO i1 i2 l1 l2)
    (hz : IsZipHeld s.heap z TI TO T f) (hT : s.heap.get? T = some oT) (hTI : IsPair s.heap TI (.ref i1) (.ref i2)) (h1 : s.heap.IsTupleIter i1 l1 k1) (hl1 : s.heap.IsTuple l1 xs) (hx : xs[k1]? = none)
    (hE : ∀ h' e, (∀ c o, c ≠ z → c ≠ i1 → s.heap.get? c = some o → h'.get? c = some o) → (∃ o, h'.get? e = some o ∧ o.cls = .type "StopIteration") → E (.ref e) { s with heap := h' }) :
    wpAny (model prog w) A (Builtin.«zip.__next__» ⟨[.ref z], []⟩) Q E s := by
  show wpAny _ _ (field (.ref z) 2 >>= _) _ _ _
  refine wpAny_bind (wpAny_field hz rfl (x := .bool false) rfl ?_)
  show wpAny _ _ (field (.ref z) 3 >>= _) _ _ _
  refine wpAny_bind (wpAny_field hz rfl (x := .ref TI) rfl (wpAny_bind (wpAny_seqItems hTI rfl ?_)))
  show wpAny _ _ (Builtin.SmallTypes.ownedTupleIsFree (.ref z) >>= _) _ _ _
  refine wpAny_bind (wpAny_tupleHeld_zip hz hT fun g1 z1 b1 => ?_)
  simp only [Bool.false_eq_true, if_false]
  refine wpAny_bind ?_
  rw [← Array.forIn_toList]
  simp only [List.forIn_cons, List.forIn_nil]
  refine wpAny_bind (wpAny_bind (wpAny_holding ?_))
  show wpAny _ _ (Builtin.SmallTypes.nextOf (.ref i1) >>= _) _ _ _
  refine wpAny_bind (RZ.nextOf_tuple_end (s := { s with heap := g1 }) hh (h1.extBut b1.extBut D.i1z) (hl1.extBut b1.extBut D.l1z) hx fun g2 e b2 he => ?_)
  exact hE g2 e (fun c o c1 c2 q => b2 _ _ c2 (b1.extBut _ _ c1 q)) he

theorem zt_nextI {z TI TO T i1 i2 l1 l2 : Addr} {f : Bool} {oT : Obj} {k1 k2 : Nat} {xs ys : Array Value} {x y : Value} {Q : Option Value → Shared → Prop} (D : ZipApart z TI TO i1 i2 l1 l2)
    (hz : IsZipHeld s.heap z TI TO T f) (hT : s.heap.get? T = some oT) (hTI : IsPair s.heap TI (.ref i1) (.ref i2)) (h1 : s.heap.IsTupleIter i1 l1 k1) (h2 : s.heap.IsTupleIter i2 l2 k2)
    (hl1 : s.heap.IsTuple l1 xs) (hl2 : s.heap.IsTuple l2 ys) (hx : xs[k1]? = some x) (hy : ys[k2]? = some y)
    (hQ : ∀ h', IsZipHeld h' z TI TO T true → h'.IsTupleIter i1 l1 (k1 + 1) → h'.IsTupleIter i2 l2 (k2 + 1) → IsPair h' s.heap.objs.size x y → h'.objs.size = s.heap.objs.size + 1 →
      (∀ c o, c ≠ z → c ≠ i1 → c ≠ i2 → s.heap.get? c = some o → h'.get? c = some o) → Q (some (.ref s.heap.objs.size)) { s with heap := h' }) : wpAny (model prog w) A (pyNext (.ref z)) Q E s := by
  have ty : s.TypeIs (.ref z) "zip" := ⟨_, hz, rfl⟩
  unfold pyNext
  exact wpAny_bind (wpAny_attempt (wpAny_callSpecial?_slot (name := Str.ofString "__next__") ty F.slot_zip_next (wpAny_call_entry F.slot_zip_next ty F.entry_zip_next
    (zt_item D hz hT hTI h1 h2 hl1 hl2 hx hy fun h' a1 a3 a4 a5 a6 a7 => wpAny_pure (hQ h' a1 a3 a4 a5 a6 a7)) (F.args_zip_next_1 _))))
theorem zt_nextE {z TI TO T i1 i2 l1 l2 : Addr} {f : Bool} {oT : Obj} {k1 k2 : Nat} {xs ys : Array Value} {Q : Option Value → Shared → Prop} (hh : A.handled = none) (D : ZipApart z TI TO i1 i2 l1 l2)
    (hz : IsZipHeld s.heap z TI TO T f) (hT : s.heap.get? T = some oT) (hTI : IsPair s.heap TI (.ref i1) (.ref i2)) (h1 : s.heap.IsTupleIter i1 l1 k1) (hl1 : s.heap.IsTuple l1 xs) (hx : xs[k1]? = none)
    (hQ : ∀ h', (∀ c o, c ≠ z → c ≠ i1 → s.heap.get? c = some o → h'.get? c = some o) → Q none { s with heap := h' }) : wpAny (model prog w) A (pyNext (.ref z)) Q E s := by
  have ty : s.TypeIs (.ref z) "zip" := ⟨_, hz, rfl⟩
  unfold pyNext
  refine wpAny_bind (wpAny_attempt (wpAny_callSpecial?_slot (name := Str.ofString "__next__") ty F.slot_zip_next (wpAny_call_entry F.slot_zip_next ty F.entry_zip_next
    (zt_end (ys := ys) (k2 := k2) (i2 := i2) (l2 := l2) hh D hz hT hTI h1 hl1 hx fun h' e hk he => ?_) (F.args_zip_next_1 _))))
  obtain ⟨o, ho, hc⟩ := he
  exact wpAny_bind (wpAny_isInstance (T := "StopIteration") (b := true) ⟨o, ho, hc⟩ isSubtype_stop (wpAny_pure (hQ _ hk)))

theorem far {a b N : Nat} (h1 : a < N) (h2 : N ≤ b) : b ≠ a := fun e => absurd h1 (Nat.not_lt_of_le (e ▸ h2))
/-- the zip's own objects, i pairs on -/
structure Zs (h : Heap) (z TI TO i1 i2 l1 l2 : Addr) (xs ys : Array Value) (N0 i : Nat) : Prop where
  ti : IsPair h TI (.ref i1) (.ref i2)
  a : h.IsTupleIter i1 l1 i
  b : h.IsTupleIter i2 l2 i
  la : h.IsTuple l1 xs
  lb : h.IsTuple l2 ys
  out : (IsZip h z TI TO .none ∧ ∃ p q, IsPair h TO p q) ∨ ∃ T f oT, IsZipHeld h z TI TO T f ∧ h.get? T = some oT ∧ N0 ≤ T
structure Zl (h : Heap) (xs ys : Array Value) (N0 : Nat) (ts : List Addr) : Prop where
  up : ts.Pairwise (· < ·)
  at' : ∀ T ∈ ts, N0 ≤ T ∧ T < h.objs.size
  pr : ∀ (j : Nat) (T : Addr), ts[j]? = some T → ∃ x y, xs[j]? = some x ∧ ys[j]? = some y ∧ IsPair h T x y
theorem zt_loop {z TI TO i1 i2 l1 l2 S : Addr} {xs ys : Array Value} {N0 : Nat} {res : Value} {R : Result → Shared → Prop} (hh : A.in1.handled = none) (D : ZipApart z TI TO i1 i2 l1 l2)
    (nS : S ≠ z ∧ S ≠ TI ∧ S ≠ TO ∧ S ≠ i1 ∧ S ≠ i2 ∧ S ≠ l1 ∧ S ≠ l2) (lo : z < N0 ∧ TI < N0 ∧ TO < N0 ∧ i1 < N0 ∧ i2 < N0 ∧ S < N0) (hsz : xs.size = ys.size) (hn : xs.size ≤ 1000000) :
    ∀ (k i : Nat) (s : Shared) (ts : List Addr) (c : Nat), xs.size - i = k → i ≤ xs.size → Zs s.heap z TI TO i1 i2 l1 l2 xs ys N0 i → s.heap.get? S = some { cls := .type "list", data := .seq (ts.map Value.ref).toArray c } → ts.length = i → N0 ≤ s.heap.objs.size → Zl s.heap xs ys N0 ts →
      (∀ h' ts' c', ts'.length = xs.size → Zl h' xs ys N0 ts' → h'.get? S = some { cls := .type "list", data := .seq (ts'.map Value.ref).toArray c' } → (∀ b o, b < N0 → b ≠ S → b ≠ z → b ≠ TO → b ≠ i1 → b ≠ i2 → s.heap.get? b = some o → h'.get? b = some o) → R (.ok (.ret res)) { s with heap := h' }) →
      codeAny (model prog w) A (.builtin "list.extend.loop" ⟨[.ref S, .ref z, res], []⟩) R s := by
  obtain ⟨nz, nTI, nTO, n1, n2, nl1, nl2⟩ := nS
  obtain ⟨oz, oTI, oTO, o1, o2, oS⟩ := lo
  intro k
  induction k with
  | zero =>
    intro i s ts c hk hi Z hS hl hN L hR
    have hin : i = xs.size := by omega
    refine codeAny_builtin F.entry_extend_loop ?_
    rw [Around.under_plainId F.plain_extend_loop _]
    show wpAny _ A.in1 (pyNext (.ref z) >>= _) _ _ s
    have ex : xs[i]? = none := Array.getElem?_eq_none (by omega)
    have fin : ∀ h' : Heap, (∀ c o, c ≠ z → c ≠ TO → c ≠ i1 → c ≠ i2 → s.heap.get? c = some o → h'.get? c = some o) → R (.ok (.ret res)) { s with heap := h' } := fun h' hk' => by
      refine hR h' ts c (by omega) ⟨L.up, fun T hT => ?_, fun j T hj => ?_⟩ (hk' _ _ nz nTO n1 n2 hS) fun b o _ _ b1 b2 b3 b4 e => hk' b o b1 b2 b3 b4 e
      · obtain ⟨q1, q2⟩ := L.at' T hT
        obtain ⟨j, hj⟩ := List.getElem?_of_mem hT
        obtain ⟨x, y, _, _, p⟩ := L.pr j T hj
        exact ⟨q1, Heap.lt_size (hk' _ _ (far oz q1) (far oTO q1) (far o1 q1) (far o2 q1) p)⟩
      · obtain ⟨x, y, ex, ey, p⟩ := L.pr j T hj
        have q1 := (L.at' T (List.mem_of_getElem? hj)).1
        exact ⟨x, y, ex, ey, hk' _ _ (far oz q1) (far oTO q1) (far o1 q1) (far o2 q1) p⟩
    rcases Z.out with ⟨hz, p, q, hTO⟩ | ⟨T, f, oT, hz, hT, hTN⟩
    · exact wpAny_bind (RZ.pyNext_zipT_end hh D hz Z.ti hTO Z.a Z.b Z.la Z.lb (.inl ex) fun h' hk' => wpAny_pure (fin h' hk'))
    · exact wpAny_bind (zt_nextE (ys := ys) (k2 := i) hh D hz hT Z.ti Z.a Z.la ex fun h' hk' => wpAny_pure (fin h' fun c o c1 _ c3 _ e => hk' c o c1 c3 e))
  | succ k ih =>
    intro i s ts c hk hi Z hS hl hN L hR
    have hlt : i < xs.size := by omega
    have hlt2 : i < ys.size := by omega
    have ex := Array.getElem?_eq_getElem hlt
    have ey := Array.getElem?_eq_getElem hlt2
    refine codeAny_builtin F.entry_extend_loop ?_
    rw [Around.under_plainId F.plain_extend_loop _]
    show wpAny _ A.in1 (pyNext (.ref z) >>= _) _ _ s
    have go : ∀ h' : Heap, IsPair h' s.heap.objs.size xs[i] ys[i] → h'.objs.size = s.heap.objs.size + 1 → (∀ c o, c ≠ z → c ≠ TO → c ≠ i1 → c ≠ i2 → s.heap.get? c = some o → h'.get? c = some o) → h'.IsTupleIter i1 l1 (i + 1) → h'.IsTupleIter i2 l2 (i + 1) →
        (∃ T f oT, IsZipHeld h' z TI TO T f ∧ h'.get? T = some oT ∧ N0 ≤ T) →
        wpAny (model prog w) A.in1 (updateSeq S (·.push (.ref s.heap.objs.size)) >>= fun _ => again (.builtin "list.extend.loop" ⟨[.ref S, .ref z, res], []⟩)) (fun fin s' => match fin with | .done f => R (.ok f) s' | .again c' => c'.quiet = true ∧ codeAny (model prog w) A c' R s') (fun e s' => R (.error e) s') { s with heap := h' } := fun h' hp hs kp a1 a2 hz => by
      have hS' := kp _ _ nz nTO n1 n2 hS
      have lt : ts.length < xs.size := by omega
      refine wpAny_bind (wpAny_updateSeq hS' rfl (wpAny_pure ⟨plainId_quiet F.plain_extend_loop _, ?_⟩) (by rw [List.size_toArray, List.length_map, sizeLine_eq]; omega) (by show ((ts.map Value.ref).toArray.push _).size ≤ sizeLine + 1; rw [Array.size_push, List.size_toArray, List.length_map, sizeLine_eq]; omega))
      have oth : ∀ b o, b ≠ S → h'.get? b = some o → (h'.update S (Obj.mapSeq (·.push (.ref s.heap.objs.size)))).get? b = some o := fun b o hb e => (Heap.get?_update_other _ _ (Ne.symm hb)).trans e
      have nt : IsPair (h'.update S (Obj.mapSeq (·.push (.ref s.heap.objs.size)))) s.heap.objs.size xs[i] ys[i] := oth _ _ (far oS hN) hp
      refine ih (i + 1) { s with heap := h'.update S (Obj.mapSeq (·.push (.ref s.heap.objs.size))) } (ts ++ [s.heap.objs.size]) (c + 1) (by omega) hlt
        ⟨oth _ _ (Ne.symm nTI) (kp _ _ D.TIz D.TITO D.TIi1 D.TIi2 Z.ti), a1.at fun o e => oth _ o (Ne.symm n1) e, a2.at fun o e => oth _ o (Ne.symm n2) e, Z.la.at fun o e => oth _ o (Ne.symm nl1) (kp _ o D.l1z D.l1TO D.l1i1 D.l1i2 e), Z.lb.at fun o e => oth _ o (Ne.symm nl2) (kp _ o D.l2z D.l2TO D.l2i1 D.l2i2 e), ?_⟩
        ?_ (by rw [List.length_append, hl]; rfl) (by show N0 ≤ (Heap.update _ _ _).objs.size; rw [Heap.size_update, hs]; omega) ⟨?_, fun T hT => ?_, fun j T hj => ?_⟩ fun h2 ts' c' q1 q2 q3 q4 => ?_
      · obtain ⟨T, f, oT, z1, z2, z3⟩ := hz
        exact .inr ⟨T, f, oT, oth _ _ (Ne.symm nz) z1, oth _ _ (far oS z3) z2, z3⟩
      · have e := Heap.get?_update_self (Obj.mapSeq (·.push (.ref s.heap.objs.size))) hS' rfl
        show (h'.update S _).get? S = _
        rw [e]
        simp [Obj.mapSeq]
      · rw [List.pairwise_append]
        exact ⟨L.up, List.pairwise_singleton _ _, fun a ha b hb => by rw [List.mem_singleton.mp hb]; exact (L.at' a ha).2⟩
      · show N0 ≤ T ∧ T < (Heap.update _ _ _).objs.size
        rw [Heap.size_update, hs]
        rcases List.mem_append.mp hT with hT | hT
        · exact ⟨(L.at' T hT).1, Nat.lt_succ_of_lt (L.at' T hT).2⟩
        · rw [List.mem_singleton.mp hT]; exact ⟨hN, Nat.lt_succ_self _⟩
      · rcases Nat.lt_or_ge j ts.length with q | q
        · rw [List.getElem?_append_left q] at hj
          obtain ⟨x, y, e1, e2, p⟩ := L.pr j T hj
          have q1 := (L.at' T (List.mem_of_getElem? hj)).1
          exact ⟨x, y, e1, e2, oth _ _ (far oS q1) (kp _ _ (far oz q1) (far oTO q1) (far o1 q1) (far o2 q1) p)⟩
        · rw [List.getElem?_append_right q] at hj
          have ej : j = ts.length := by
            rcases Nat.eq_or_lt_of_le q with e | e
            · exact e.symm
            · rw [List.getElem?_eq_none (by simp; omega)] at hj; cases hj
          subst ej
          simp at hj
          subst hj
          exact ⟨xs[i], ys[i], by rw [hl]; exact ex, by rw [hl]; exact ey, nt⟩
      · exact hR h2 ts' c' q1 q2 q3 fun b o b0 bS b1 b2 b3 b4 e => q4 b o b0 bS b1 b2 b3 b4 (oth b o bS (kp b o b1 b2 b3 b4 e))
    rcases Z.out with ⟨hz, p, q, hTO⟩ | ⟨T, f, oT, hz, hT, hTN⟩
    · refine wpAny_bind (RZ.pyNext_zipT_item D hz Z.ti hTO Z.a Z.b Z.la Z.lb ex ey fun h' a1 a2 a3 a4 a5 a6 hk' => ?_)
      exact go h' a5 a6 hk' a3 a4 ⟨s.heap.objs.size, false, _, a1, a5, hN⟩
    · refine wpAny_bind (zt_nextI D hz hT Z.ti Z.a Z.b Z.la Z.lb ex ey fun h' a1 a3 a4 a5 a6 hk' => ?_)
      exact go h' a5 a6 (fun c o c1 _ c3 c4 e => hk' c o c1 c3 c4 e) a3 a4 ⟨T, true, oT, a1, hk' _ _ (far oz hTN) (far o1 hTN) (far o2 hTN) hT, hTN⟩
end
end VM
/-! list(zip(a, b)), a and b tuples of one length: the call, the rule. -/
namespace VM
open PySem PySem.Spec L2 PyProof.Rows
theorem zip_no_len : typeLookup (.type "zip") "__len__" = pure none := by rw [typeLookup_type, builtinLookup_eq_fast]; kernel_rfl
theorem zip_no_hint : typeLookup (.type "zip") "__length_hint__" = pure none := by rw [typeLookup_type, builtinLookup_eq_fast]; kernel_rfl
section
variable {prog : Program} {w : World} {A : Around} {E : Value → Shared → Prop} {s : Shared}
theorem zt_call {z TI TO i1 i2 l1 l2 : Addr} {xs ys : Array Value} {Q : Value → Shared → Prop} (hh : A.handled = none) (D : ZipApart z TI TO i1 i2 l1 l2)
    (hz : IsZip s.heap z TI TO .none) (hTI : IsPair s.heap TI (.ref i1) (.ref i2)) {p0 q0 : Value} (hTO : IsPair s.heap TO p0 q0) (h1 : s.heap.IsTupleIter i1 l1 0) (h2 : s.heap.IsTupleIter i2 l2 0)
    (hl1 : s.heap.IsTuple l1 xs) (hl2 : s.heap.IsTuple l2 ys) (hsz : xs.size = ys.size) (hn : xs.size ≤ 1000000)
    (hQ : ∀ h' ts c', ts.length = xs.size → Zl h' xs ys (s.heap.objs.size + 1) ts → h'.get? s.heap.objs.size = some { cls := .type "list", data := .seq (ts.map Value.ref).toArray c' } →
      (∀ b o, b < s.heap.objs.size → b ≠ z → b ≠ TO → b ≠ i1 → b ≠ i2 → s.heap.get? b = some o → h'.get? b = some o) → Q (.ref s.heap.objs.size) { s with heap := h' }) :
    wpAny (model prog w) A (call (.type "list") [.ref z]) Q E s := by
  have a1 : z < s.heap.objs.size := Heap.lt_size hz
  have a2 : TI < s.heap.objs.size := Heap.lt_size hTI
  have a3 : TO < s.heap.objs.size := Heap.lt_size hTO
  have a4 : i1 < s.heap.objs.size := let ⟨_, e, _⟩ := id h1; Heap.lt_size e
  have a5 : i2 < s.heap.objs.size := let ⟨_, e, _⟩ := id h2; Heap.lt_size e
  have a6 : l1 < s.heap.objs.size := let ⟨_, e, _⟩ := id hl1; Heap.lt_size e
  have a7 : l2 < s.heap.objs.size := let ⟨_, e, _⟩ := id hl2; Heap.lt_size e
  refine callType_codes (Q₁ := fun obj z₁ => obj = .ref s.heap.objs.size ∧ z₁ = { s with heap := s.heap.push { cls := .type "list", data := .seq #[] } }) PySem.F.called_list (PySem.F.typeCall_list_1 _) PySem.F.entry_list_init
    (code_list_new _ ⟨rfl, rfl⟩) fun obj s₁ h₁ => ?_
  obtain ⟨rfl, rfl⟩ := h₁
  have hS : (s.heap.push { cls := .type "list", data := .seq #[] }).get? s.heap.objs.size = some { cls := .type "list", data := .seq #[] } := Heap.get?_push_size _ rfl
  have z1 : (s.heap.push { cls := .type "list", data := .seq #[] }).objs.size = s.heap.objs.size + 1 := Heap.size_push ..
  refine ⟨⟨_, hS, rfl⟩, PySem.F.args_list_init_2 _ _, ?_⟩
  show wpAny _ _ (do let old ← Builtin.List.listItems (.ref s.heap.objs.size); Builtin.List.listUpdate (.ref s.heap.objs.size) (fun _ => #[]); letGo old.toList.reverse; Builtin.List.listExtendWith (.ref s.heap.objs.size) (.ref z) .none) _ _ _
  refine wpAny_bind ?_
  unfold Builtin.List.listItems
  refine wpAny_bind (wpAny_seqItems hS rfl (wpAny_pure ?_))
  show wpAny _ _ (updateSeq s.heap.objs.size (fun _ => #[]) >>= fun _ => letGo (#[] : Array Value).toList.reverse >>= fun _ => Builtin.List.listExtendWith (.ref s.heap.objs.size) (.ref z) .none) _ _ _
  refine wpAny_bind (wpAny_updateSeq hS rfl ?_)
  have hS2 := Heap.get?_update_self (Obj.mapSeq (fun _ => (#[] : Array Value))) hS rfl
  have oth1 : ∀ b o, b ≠ s.heap.objs.size → s.heap.get? b = some o → ((s.heap.push { cls := .type "list", data := .seq #[] }).update s.heap.objs.size (Obj.mapSeq (fun _ => (#[] : Array Value)))).get? b = some o :=
    fun b o hb e => (Heap.get?_update_other _ _ (Ne.symm hb)).trans (Heap.get?_push_of_some _ e)
  have sz2 : ((s.heap.push { cls := .type "list", data := .seq #[] }).update s.heap.objs.size (Obj.mapSeq (fun _ => (#[] : Array Value)))).objs.size = s.heap.objs.size + 1 := by rw [Heap.size_update, z1]
  generalize (s.heap.push { cls := .type "list", data := .seq #[] }).update s.heap.objs.size (Obj.mapSeq (fun _ => (#[] : Array Value))) = g at hS2 oth1 sz2 ⊢
  have ne : ∀ {b : Addr}, b < s.heap.objs.size → b ≠ s.heap.objs.size := fun h => Nat.ne_of_lt h
  refine wpAny_bind (wpAny_letGo ?_)
  unfold Builtin.List.listExtendWith
  have hT : Shared.TypeIs { s with heap := g } (.ref z) "zip" := ⟨_, oth1 _ _ (ne a1) hz, rfl⟩
  refine wpAny_bind (wpAny_typeOf hT ?_)
  have q1 : Builtin.List.listSameRef (.ref s.heap.objs.size) (.ref z) = false := by
    have : s.heap.objs.size ≠ z := Nat.ne_of_gt a1
    simp [Builtin.List.listSameRef, this]
  have q2 : (Value.type "zip" == Value.type "list") = false := by decide
  have q3 : (Value.type "zip" == Value.type "tuple") = false := by decide
  simp only [q1, q2, q3, Bool.or_false, Bool.false_eq_true, if_false]
  refine wpAny_bind (wpAny_pyIter_zip (s := { s with heap := g }) (oth1 _ _ (ne a1) hz) ?_)
  refine wpAny_bind (wpAny_holding ?_)
  unfold Builtin.List.listLengthHint
  refine wpAny_bind (wpAny_specialOf hT zip_no_len ?_)
  show wpAny _ _ (specialOf (Value.ref z) (Str.ofString "__length_hint__") >>= _) _ _ _
  refine wpAny_bind (wpAny_specialOf hT zip_no_hint (wpAny_pure ?_))
  show wpAny _ _ (rule "list.extend.makes-room" >>= fun _ => Builtin.List.listTouch (.ref s.heap.objs.size) >>= fun _ => again (.builtin "list.extend.loop" ⟨[.ref s.heap.objs.size, .ref z, .none], []⟩)) _ _ _
  refine wpAny_bind (wpAny_rule (wpAny_bind ?_))
  show wpAny _ _ (updateSeq s.heap.objs.size (·.push .none) >>= fun _ => updateSeq s.heap.objs.size (·.pop)) _ _ _
  refine wpAny_bind (wpAny_updateSeq hS2 rfl ?_)
  have hS3 := Heap.get?_update_self (Obj.mapSeq (·.push Value.none)) hS2 rfl
  refine wpAny_updateSeq hS3 rfl ?_
  have hS4 := Heap.get?_update_self (Obj.mapSeq (·.pop)) hS3 rfl
  have oth : ∀ b o, b ≠ s.heap.objs.size → s.heap.get? b = some o → ((g.update s.heap.objs.size (Obj.mapSeq (·.push Value.none))).update s.heap.objs.size (Obj.mapSeq (·.pop))).get? b = some o :=
    fun b o hb e => (Heap.get?_update_other _ _ (Ne.symm hb)).trans ((Heap.get?_update_other _ _ (Ne.symm hb)).trans (oth1 b o hb e))
  have sz4 : ((g.update s.heap.objs.size (Obj.mapSeq (·.push Value.none))).update s.heap.objs.size (Obj.mapSeq (·.pop))).objs.size = s.heap.objs.size + 1 := by rw [Heap.size_update, Heap.size_update, sz2]
  generalize (g.update s.heap.objs.size (Obj.mapSeq (·.push Value.none))).update s.heap.objs.size (Obj.mapSeq (·.pop)) = g2 at hS4 oth sz4 ⊢
  obtain ⟨c4, hS5⟩ : ∃ c, g2.get? s.heap.objs.size = some { cls := .type "list", data := .seq (([] : List Addr).map Value.ref).toArray c } := ⟨_, hS4⟩
  refine wpAny_pure ⟨plainId_quiet F.plain_extend_loop _, zt_loop (l1 := l1) (l2 := l2) (N0 := s.heap.objs.size + 1) (A := A.in1) (by simp [hh]) D ⟨(ne a1).symm, (ne a2).symm, (ne a3).symm, (ne a4).symm, (ne a5).symm, (ne a6).symm, (ne a7).symm⟩
    ⟨Nat.lt_succ_of_lt a1, Nat.lt_succ_of_lt a2, Nat.lt_succ_of_lt a3, Nat.lt_succ_of_lt a4, Nat.lt_succ_of_lt a5, Nat.lt_succ_self _⟩ hsz hn (xs.size - 0) 0 { s with heap := g2 } [] c4 rfl (Nat.zero_le _)
    ⟨oth _ _ (ne a2) hTI, h1.at fun o e => oth _ o (ne a4) e, h2.at fun o e => oth _ o (ne a5) e, hl1.at fun o e => oth _ o (ne a6) e, hl2.at fun o e => oth _ o (ne a7) e, .inl ⟨oth _ _ (ne a1) hz, p0, q0, oth _ _ (ne a3) hTO⟩⟩
    hS5 rfl (by show _ ≤ g2.objs.size; rw [sz4]; exact Nat.le_refl _) ⟨List.Pairwise.nil, fun T h => absurd h (by simp), fun j T h => by simp at h⟩ fun h' ts c' b1 b2 b3 b4 => ?_⟩
  exact ⟨rfl, hQ h' ts c' b1 b2 b3 fun b o b0 c1 c2 c3 c4 e => b4 b o (Nat.lt_succ_of_lt b0) (ne b0) c1 c2 c3 c4 (oth b o (ne b0) e)⟩
end

/-! ### many new objects at once -/
theorem inv_many {X : Cx} {pins : List (Addr × Obj)} {σ : L2.St} {H H' : Hp} {s : Shared} {h' : Heap} {t' : Nat} (I : Inv X pins σ H s) (k : ∀ b u, s.heap.get? b = some u → h'.get? b = some u) (old : ∀ b, b < s.heap.objs.size → H' b = H b)
    (new : ∀ b u, s.heap.objs.size ≤ b → H' b = some u → ObjOk X.prog X.w H' h' b u) : Inv X pins σ H' { s with heap := h', toks := t' } := by
  have some_lt : ∀ {b o}, H b = some o → b < s.heap.objs.size := fun e => I.hok.lt e
  have up : ∀ {b o}, H b = some o → H' b = some o := fun e => by rw [old _ (some_lt e)]; exact e
  refine I.un ⟨fun b o q _ _ _ => k b o q, fun b o q _ _ _ => ⟨o.slots, k b o q⟩, fun b o q n _ => by rw [old b (Heap.lt_size q)]; exact n, fun b o q _ => ⟨o, k b o q⟩, fun b xs q => up q, fun b o u q => up q, fun b ps q => ⟨#[], by rw [up q]; simp⟩⟩ fun b u e => ?_
  rcases Nat.lt_or_ge b s.heap.objs.size with q | q
  · rw [old b q] at e
    exact (I.hok b u e).stay (fun c v _ q => k c v q) (fun c q => up q) fun c xs q => up q
  · exact new b u q e
def layT : Hp → List (Addr × V × V) → Hp
  | H, [] => H
  | H, t :: r => layT (upd H t.1 (.tup [t.2.1, t.2.2])) r
theorem layT_no : ∀ (l : List (Addr × V × V)) (H : Hp) (b : Addr), b ∉ l.map (·.1) → layT H l b = H b
  | [], H, b, _ => rfl
  | t :: l, H, b, h => by
    rw [List.map_cons, List.mem_cons, not_or] at h
    show layT _ l b = H b
    rw [layT_no l _ b h.2, upd_ne h.1]
theorem layT_at : ∀ (l : List (Addr × V × V)) (H : Hp) (t : Addr × V × V), (l.map (·.1)).Nodup → t ∈ l → layT H l t.1 = some (.tup [t.2.1, t.2.2])
  | u :: l, H, t, nd, h => by
    rw [List.map_cons, List.nodup_cons] at nd
    show layT _ l t.1 = _
    rcases List.mem_cons.mp h with e | h
    · subst e
      rw [layT_no l _ _ nd.1, upd_same]
    · exact layT_at l _ t nd.2 h
/-- list(zip(a, b)) -/
def rLZ (K : PySem.W.Frag) : List V → Hp → VK → Prop := fun vs H Q => ∃ (a b : Addr) (xs ys : List V), vs = [V.ref a, V.ref b] ∧ SqT K H a xs ∧ SqT K H b ys ∧ xs.length = ys.length ∧ xs.length ≤ 1000000 ∧
  ∀ (ts : List Addr) (p : Addr), ts.length = xs.length → ts.Nodup → p ∉ ts → (∀ T ∈ ts, H T = none) → H p = none → Q (.ref p) (upd (layT H (ts.zip (xs.zip ys))) p (.lst (ts.map V.ref)))
theorem vals_refs : ∀ ts : List Addr, Vals (ts.map V.ref) (ts.map Value.ref)
  | [] => .nil
  | t :: ts => .cons rfl (vals_refs ts)
theorem pe_lzip {X : Cx} {e e2 : Expr} {ta : TA} {p p2 q pos : Pos} (hc : X.calm = true) (hg : Gl X "list") (hm : X.mg "list" = none) (hg2 : Gl X "zip") (hm2 : X.mg "zip" = none) (ha : PA X [e, e2] ta)
    (hs : starEach [e, e2] X.env = (false, eval e X.env) :: starEach [e2] X.env := by rfl) (hpl : (backTo q (starEach [e2] X.env)).any (·.1) = false := by rfl) :
    PE X (.Call (.Name "list" p) [.Call (.Name "zip" p2) [e, e2] [] q] [] pos) (tCB (rLZ X.K) ta) := by
  refine ⟨fun pins s σ H Q I h => ?_⟩
  refine Call_ (ld_blt I hg hm boot_list ?_)
  refine PyProof.Rows.callWith_type1 (PyProof.Rows.args_cons ?_ rfl) rfl rfl
  refine Call_ (ld_blt I hg2 hm2 boot_zip ?_)
  refine PyProof.Rows.callWith_type1 (thn (ha.run q pins s σ H _ I h) fun us s1 ⟨vs, H1, I1, r1, q1⟩ => ?_) hs hpl
  obtain ⟨a, b, xs, ys, rfl, hqx, hqy, hlen, hlim, q1⟩ := q1
  obtain ⟨u1, u2, rfl, ru1, ru2⟩ := vals2 r1
  obtain rfl : u1 = Value.ref a := ru1
  obtain rfl : u2 = Value.ref b := ru2
  obtain ⟨its, rv, pa, _⟩ := I1.tuple hqx
  obtain ⟨its2, rv2, pb, _⟩ := I1.tuple hqy
  have hla : a < s1.heap.objs.size := let ⟨_, e, _⟩ := id pa; Heap.lt_size e
  have hlb : b < s1.heap.objs.size := let ⟨_, e, _⟩ := id pb; Heap.lt_size e
  refine RZ.call_zipT (show s1.heap.IsTuple a its.toArray from pa) (show s1.heap.IsTuple b its2.toArray from pb) fun h' hz hTI hTO h1 h2 hsz hk => ?_
  refine PyProof.Rows.args_nil ?_
  have n1 : its.toArray.size = xs.length := by rw [List.size_toArray, ← rv.length]
  have n2 : its2.toArray.size = ys.length := by rw [List.size_toArray, ← rv2.length]
  have pa' : h'.IsTuple a its.toArray := Heap.IsTuple.at (show s1.heap.IsTuple a its.toArray from pa) fun o e => hk a o e
  have pb' : h'.IsTuple b its2.toArray := Heap.IsTuple.at (show s1.heap.IsTuple b its2.toArray from pb) fun o e => hk b o e
  refine zt_call (s := { s1 with heap := h' }) (I1.ok.hd hc) (PySem.W.ktu_apart s1.heap.objs.size a b hla hlb) hz hTI hTO h1 h2 pa' pb' (by rw [n1, n2, hlen]) (by rw [n1]; exact hlim) fun h2 ts c' b1 b2 b3 b4 => ?_
  have hsz' : h'.objs.size = s1.heap.objs.size + 5 := hsz
  have keep : ∀ b u, s1.heap.get? b = some u → h2.get? b = some u := fun c o e => by
    have lt : c < s1.heap.objs.size := Heap.lt_size e
    refine b4 c o (by show c < h'.objs.size; rw [hsz']; exact Nat.lt_of_lt_of_le lt (Nat.le_add_right _ _)) ?_ ?_ ?_ ?_ (hk c o e)
    · exact Nat.ne_of_lt (Nat.lt_of_lt_of_le lt (Nat.le_add_right _ _))
    · exact Nat.ne_of_lt (Nat.lt_of_lt_of_le lt (Nat.le_add_right _ _))
    · exact Nat.ne_of_lt lt
    · exact Nat.ne_of_lt (Nat.lt_of_lt_of_le lt (Nat.le_add_right _ _))
  have tN : ∀ T ∈ ts, s1.heap.objs.size ≤ T ∧ h'.objs.size < T := fun T hT => by
    have := (b2.at' T hT).1
    have e : h'.objs.size + 1 ≤ T := this
    exact ⟨Nat.le_trans (Nat.le_trans (by rw [hsz']; exact Nat.le_add_right _ _) (Nat.le_succ h'.objs.size)) e, e⟩
  have nd : ts.Nodup := b2.up.imp fun h => Nat.ne_of_lt h
  have pn : h'.objs.size ∉ ts := fun h => Nat.lt_irrefl _ (tN _ h).2
  have pge : s1.heap.objs.size ≤ h'.objs.size := by rw [hsz']; exact Nat.le_add_right _ _
  have tl : ts.length = xs.length := by rw [b1, n1]
  have zl : (ts.zip (xs.zip ys)).map (·.1) = ts := by
    rw [List.map_fst_zip]
    rw [List.length_zip, tl, ← hlen, Nat.min_self]
    exact Nat.le_refl _
  have J : Inv X pins σ (upd (layT H1 (ts.zip (xs.zip ys))) h'.objs.size (.lst (ts.map V.ref))) { s1 with heap := h2, toks := s1.toks } := by
    refine inv_many I1 keep (fun c lt => ?_) fun c u ge e => ?_
    · rw [upd_ne (Nat.ne_of_lt (Nat.lt_of_lt_of_le lt pge)), layT_no _ _ _ (by rw [zl]; exact fun h => absurd (Nat.lt_of_lt_of_le lt (tN c h).1) (Nat.lt_irrefl _))]
    · by_cases hb : c = h'.objs.size
      · subst hb
        rw [upd_same] at e
        cases e
        exact ⟨by rw [List.length_map, tl, sizeLine_eq]; omega, ts.map Value.ref, c', vals_refs ts, b3⟩
      · rw [upd_ne hb] at e
        by_cases hm : c ∈ ts
        · obtain ⟨j, hj⟩ := List.getElem?_of_mem hm
          obtain ⟨x, y, ex, ey, pr⟩ := b2.pr j c hj
          have hjl : j < ts.length := (List.getElem?_eq_some_iff.mp hj).1
          obtain ⟨vx, evx⟩ : ∃ vx, xs[j]? = some vx := ⟨_, List.getElem?_eq_getElem (by omega)⟩
          obtain ⟨vy, evy⟩ : ∃ vy, ys[j]? = some vy := ⟨_, List.getElem?_eq_getElem (by omega)⟩
          have mem : (c, vx, vy) ∈ ts.zip (xs.zip ys) := by
            refine List.mem_of_getElem? (i := j) ?_
            rw [List.getElem?_zip_eq_some]
            exact ⟨hj, by rw [List.getElem?_zip_eq_some]; exact ⟨evx, evy⟩⟩
          have la := layT_at _ H1 _ (by rw [zl]; exact nd) mem
          have e' : some u = some (HO.tup [vx, vy]) := e.symm.trans la
          cases e'
          obtain ⟨x', ex', rx⟩ := rv.get evx
          obtain ⟨y', ey', ry⟩ := rv2.get evy
          have h1 : x' = x := by
            have : its.toArray[j]? = some x' := by simpa using ex'
            rw [ex] at this; cases this; rfl
          have h2' : y' = y := by
            have : its2.toArray[j]? = some y' := by simpa using ey'
            rw [ey] at this; cases this; rfl
          subst h1
          subst h2'
          exact ⟨by show 2 ≤ sizeLine; decide, [x', y'], .cons rx (.cons ry .nil), ⟨_, pr, rfl, _, rfl⟩⟩
        · rw [layT_no _ _ _ (by rw [zl]; exact hm), I1.hok.fresh ge] at e
          cases e
  exact ⟨.ref h'.objs.size, _, J, rfl, q1 ts h'.objs.size tl nd pn (fun T hT => I1.hok.fresh (tN T hT).1) (I1.hok.fresh pge)⟩
end VM
/-! zip of tuples, copies of dicts: the words of the VM. -/
namespace VM
open PySem PySem.Spec L2 PyProof.Rows
def pairD (d e : D) : D := .tup [d, e]
def fLzip : List D → Option EV
  | [.tup ds, .tup es] => if ds.length = es.length ∧ ds.length ≤ 1000000 then some (.new (.lst (List.zipWith pairD ds es))) else none
  | _ => none
section
variable {K : PySem.W.Frag} {Acc : Addr → Prop} {ι : List Addr} {μ : Sto}
theorem lay_pairs : ∀ (ts : List Addr) (ds es : List D) (xs ys : List V) (H : Hp), Sim K Acc μ ι H → ts.length = ds.length → ds.length = es.length → ts.Nodup → (∀ T ∈ ts, H T = none) → Reps K (Liv Acc μ ι) H ds xs → Reps K (Liv Acc μ ι) H es ys →
    Stp K Acc ι μ H ι μ (layT H (ts.zip (xs.zip ys))) ∧ Reps K (Liv Acc μ ι) (layT H (ts.zip (xs.zip ys))) (List.zipWith pairD ds es) (ts.map V.ref)
  | [], ds, es, xs, ys, H, S, h1, h2, _, _, r1, r2 => by
    obtain rfl : ds = [] := List.eq_nil_of_length_eq_zero (by simpa using h1.symm)
    exact ⟨.refl S, Reps.nil⟩
  | T :: ts, [], es, xs, ys, H, S, h1, h2, _, _, r1, r2 => by simp at h1
  | T :: ts, d :: ds, [], xs, ys, H, S, h1, h2, _, _, r1, r2 => by simp at h2
  | T :: ts, d :: ds, e :: es, xs, ys, H, S, h1, h2, nd, hf, r1, r2 => by
    obtain ⟨x, xr, rfl, rx, rxs⟩ := r1.inv
    obtain ⟨y, yr, rfl, ry, rys⟩ := r2.inv
    have nT := hf T List.mem_cons_self
    have t1 := S.up nT (.tup [x, y])
    have q1 : Rep K (Liv Acc μ ι) (upd H T (.tup [x, y])) (pairD d e) (.ref T) := S.newT nT (Reps.cons rx (Reps.cons ry Reps.nil))
    have nd' := List.nodup_cons.mp nd
    obtain ⟨t2, q2⟩ := lay_pairs ts ds es xr yr (upd H T (.tup [x, y])) t1.sim (by simpa using h1) (by simpa using h2) nd'.2 (fun T' hT' => by
      rw [upd_ne (fun e : T' = T => nd'.1 (by rw [← e]; exact hT'))]
      exact hf T' (List.mem_cons_of_mem _ hT')) (Reps.mv (t1.mv S) _ _ rxs) (Reps.mv (t1.mv S) _ _ rys)
    exact ⟨t1.trans t2, Reps.cons (Rep.mv (t2.mv t1.sim) _ _ q1) q2⟩
end
theorem on_lzip {K : PySem.W.Frag} : OpN K fLzip (rLZ K) := by
  intro Acc ι μ H ds xs e Q S r h q
  match ds, r, h with
  | [], _, h => cases h
  | [d], _, h => cases d <;> cases h
  | d :: d2 :: d3 :: t, _, h => cases d <;> cases d2 <;> cases h
  | [d, d2], r, h =>
    obtain ⟨v, rs, rfl, h1, r2⟩ := r
    obtain ⟨v2, rs2, rfl, h2, r3⟩ := r2
    have r3 : rs2 = [] := r3
    subst r3
    cases d <;> cases d2 <;> try (cases h; done)
    rename_i ds es
    simp only [fLzip] at h
    split at h
    case isFalse => cases h
    case isTrue hz =>
      cases h
      obtain ⟨a, vs, rfl, tp, rp⟩ := seeT h1
      obtain ⟨b, ws, rfl, tq, rq⟩ := seeT h2
      have l1 := rp.len
      have l2 := rq.len
      refine ⟨a, b, vs, ws, rfl, tp.sq, tq.sq, by omega, by omega, fun ts p tl nd pn hf np => ?_⟩
      obtain ⟨t, rr⟩ := lay_pairs ts ds es vs ws H S (by omega) hz.1 nd hf rp rq
      have zl : (ts.zip (vs.zip ws)).map (·.1) = ts := by
        rw [List.map_fst_zip]
        rw [List.length_zip]; omega
      have np' : layT H (ts.zip (vs.zip ws)) p = none := by rw [layT_no _ _ _ (by rw [zl]; exact pn)]; exact np
      exact q (.ref p) _ (t.trans (t.sim.up np' _)) ⟨⟨p, rfl, np, t.sim.newL np' rr⟩, t.sim.ownN np' rr⟩
/-- dict(d) -/
def fDict : List D → Option EV
  | [.dic ks ds] => if ks.length ≤ LIM then some (.new (.dic ks ds)) else none
  | _ => none
theorem on_dict {K : PySem.W.Frag} : OpN K fDict (fun xs H Q => ∃ (a : Addr) (kvs : List (Key × V)), xs = [.ref a] ∧ Rd H a (.dK kvs) ∧ ∀ p, H p = none → Q (.ref p) (upd H p (.dK kvs))) := by
  intro Acc ι μ H ds xs e Q S r h q
  cases ds with
  | nil => cases h
  | cons d t =>
    cases t with
    | cons _ _ => cases d <;> cases h
    | nil =>
      obtain ⟨v, rs, rfl, h1, h2⟩ := r
      have h2 : rs = [] := h2
      subst h2
      cases d <;> try (cases h; done)
      rename_i ks ds
      simp only [fDict] at h
      split at h
      case isFalse => cases h
      case isTrue hz =>
        cases h
        obtain ⟨a, vs, rfl, tp, hl, rp⟩ := (h1 : ∃ a vs, v = .ref a ∧ Rd H a (.dK (ks.zip vs)) ∧ ks.length = ds.length ∧ Reps K (Liv Acc μ ι) H ds vs)
        exact ⟨a, ks.zip vs, rfl, tp, fun p np => q (.ref p) _ (S.up np _) ⟨⟨p, rfl, np, vs, .inl upd_same, hl, Reps.mv ((S.up np _).mv S) _ _ rp⟩, S.ownD np hl rp⟩⟩
/-! loops over zip -/
theorem jr_zip {K : PySem.W.Frag} {Acc : Addr → Prop} {ι : List Addr} {μ : Sto} {H : Hp} {a b : Addr} {ds es : List D} {xs ys : List V} (ha : TupN K (Liv Acc μ ι) H a xs) (hb : TupN K (Liv Acc μ ι) H b ys) (ra : Reps K (Liv Acc μ ι) H ds xs) (rb : Reps K (Liv Acc μ ι) H es ys) :
    JR K (RZ.ItzT K a b) (.vals (List.zipWith pairD ds es)) Acc ι μ H := by
  intro Acc' ι' μ' H' S m _ fs he i
  cases he
  have ha' := ha.mv m
  have hb' := hb.mv m
  have ra' := Reps.mv m _ _ ra
  have rb' := Reps.mv m _ _ rb
  refine ⟨fun d hd => ?_, fun hl => ⟨xs, ys, ha'.sq, hb'.sq, ?_⟩⟩
  · rw [List.getElem?_zipWith] at hd
    cases e1 : ds[i]? with
    | none => rw [e1] at hd; cases hd
    | some d1 =>
      cases e2 : es[i]? with
      | none => rw [e1, e2] at hd; cases hd
      | some d2 =>
        rw [e1, e2] at hd
        cases hd
        obtain ⟨x, hx, rx⟩ := ra'.get e1
        obtain ⟨y, hy, ry⟩ := rb'.get e2
        refine ⟨⟨xs, ys, x, y, ha'.sq, hb'.sq, hx, hy⟩, fun v H'' yl => ?_⟩
        obtain ⟨T, x', y', rfl, nT, rfl, fx, fy⟩ := yl
        have ex := fx xs ha'.sq
        have ey := fy ys hb'.sq
        rw [hx] at ex
        rw [hy] at ey
        cases ex
        cases ey
        exact ⟨S.up nT _, S.newT nT (Reps.cons rx (Reps.cons ry Reps.nil))⟩
  · rw [ra'.len, rb'.len]
    rw [List.length_zipWith] at hl
    omega
def zipSrc : List D → Option Src
  | [.tup ds, .tup es] => some (.vals (List.zipWith pairD ds es))
  | _ => none
theorem zipSrc_eq {l : List D} {s : Src} (h : zipSrc l = some s) : ∃ ds es, l = [.tup ds, .tup es] ∧ s = .vals (List.zipWith pairD ds es) := by
  unfold zipSrc at h
  split at h
  · cases h; exact ⟨_, _, rfl, rfl⟩
  · cases h
def iZip (f : SA) : SI := fun F ρ μ => (f F ρ μ).bind fun vs μ1 => match sees vs μ1 with
  | some l => match zipSrc l with
    | some s => .ok s μ1
    | none => .bad
  | none => .bad
section
variable {X : Cx} {XC : Nat → Addr} {F : Fns} {W : WX} {e e2 : Expr} {fs : SA} {p p2 pos tpos q : Pos} {elts : List Expr} {kk : Nat} {σ : L2.St} {H : Hp}
theorem rdI_zip {R : It → Hp → Prop} (h : rdI X.K XC F W (iZip fs) σ H R) : RZ.iZipA X.K (rdA X.K XC F W fs) σ H R := by
  obtain ⟨Acc, ι, ρ, μ, S, E, h⟩ := h
  refine ⟨Acc, ι, ρ, μ, S, E, ?_⟩
  unfold iZip at h
  cases hf : fs F ρ μ with
  | exc x μ1 => rw [hf] at h; exact h
  | bad => rw [hf] at h; exact h.elim
  | ok vs μ1 =>
    rw [hf] at h
    simp only [Res.bind] at h
    intro us H1 t1 r1
    cases es : sees vs μ1 with
    | none => rw [es] at h; exact h.elim
    | some dd =>
      rw [es] at h
      have sr := sees_ok t1.sim r1 es
      simp only at h
      cases ez : zipSrc dd with
      | none => rw [ez] at h; exact h.elim
      | some s0 =>
        rw [ez] at h
        obtain ⟨ds, es, rfl, rfl⟩ := zipSrc_eq ez
        obtain ⟨v, rs, rfl, h1, r2⟩ := sr
        obtain ⟨v2, rs2, rfl, h2, r3⟩ := r2
        have r3 : rs2 = [] := r3
        subst r3
        obtain ⟨a, vs, rfl, tp, rp⟩ := seeT h1
        obtain ⟨b, ws, rfl, tq, rq⟩ := seeT h2
        exact ⟨a, b, vs, ws, rfl, .inr ⟨tp.sq, tq.sq, h _ H1 t1 (jr_zip tp tq rp rq)⟩⟩
theorem wi_zip (hm : X.mg "zip" = none) (ha : PA X [e, e2] (rdA X.K XC F W fs)) (hg : Gl X "zip" := by rfl) (hs : starEach [e, e2] X.env = (false, eval e X.env) :: starEach [e2] X.env := by rfl) (hpl : (backTo pos (starEach [e2] X.env)).any (·.1) = false := by rfl) :
    PI X (.Tuple elts kk tpos) (.Call (.Name "zip" p) [e, e2] [] pos) (rdI X.K XC F W (iZip fs)) := PIimp (RZ.pi_zipA hg hm ha hs hpl) fun _ _ _ h => rdI_zip h
theorem w_lzip (hm : X.mg "list" = none) (hm2 : X.mg "zip" = none) (ha : PA X [e, e2] (rdA X.K XC F W fs)) (hc : X.calm = true := by rfl) (hg : Gl X "list" := by rfl) (hg2 : Gl X "zip" := by rfl)
    (hs : starEach [e, e2] X.env = (false, eval e X.env) :: starEach [e2] X.env := by rfl) (hpl : (backTo q (starEach [e2] X.env)).any (·.1) = false := by rfl) :
    PE X (.Call (.Name "list" p) [.Call (.Name "zip" p2) [e, e2] [] q] [] pos) (rdE X.K XC F W (eCb fLzip fs)) :=
  PEimp (pe_lzip hc hg hm hg2 hm2 ha hs hpl) fun _ _ _ h => callN_ok on_lzip h
end
end VM
/-! Comprehensions over a dict's keys: the dict is locked while they run, and stands still from then on. -/
namespace VM
open PySem L2 PyProof.Rows
def keyD : Key → D
  | .inl i => .int i
  | .inr x => .str x
def keysD (ks : List Key) : List D := ks.map keyD
def iKeyS (i : Nat) : SI := fun F ρ μ => match ρ[i]? with
  | some (some (.dat (.dic ks _))) => .ok (.vals (keysD ks)) μ
  | some (some (.cel k)) => match μ[k]? with
    | some c => match c.live, c.val with
      | false, .dic ks _ => .ok (.vals (keysD ks)) μ
      | _, _ => .bad
    | none => .bad
  | _ => .bad
def stillS (i : Nat) (ρ : Env) (μ : Sto) : Sto := match ρ[i]? with
  | some (some (.cel k)) => match μ[k]? with
    | some c => μ.set k ⟨false, c.val⟩
    | none => μ
  | _ => μ
def eLcK (i : Nat) (t : Tgt) (ifs : SB) (elt : SE) (own : List Nat) : SE := fun F ρ μ => (eLc (iKeyS i) t ifs elt own F ρ (stillS i ρ μ)).nox.bind fun v μ2 => match v with
  | .new (.lst r) => .ok (.new (.lst r)) μ2
  | _ => .bad
/-! ### locked and unlocked -/
/-- the same, but for the lock of the dict at d -/
structure Fq (H H' : Hp) (d : Addr) (kvs : List (Key × V)) : Prop where
  ne : ∀ a, a ≠ d → H' a = H a
  rd : Rd H d (.dK kvs)
  rd' : Rd H' d (.dK kvs)
section
variable {K : PySem.W.Frag} {L : Addr → Prop} {H H' : Hp} {d : Addr} {kvs : List (Key × V)}
theorem Fq.symm (q : Fq H H' d kvs) : Fq H' H d kvs := ⟨fun a h => (q.ne a h).symm, q.rd', q.rd⟩
theorem rd_some {a : Addr} {u : HO} (h : Rd H a u) : H a ≠ none := by
  rcases h with h | ⟨o, h⟩ <;> rw [h] <;> simp
theorem rd_un {a : Addr} {u v : HO} (h : Rd H a u) (g : Rd H a v) (hu : ∀ o w, u ≠ .frz o w) (hv : ∀ o w, v ≠ .frz o w) : u = v := by
  rcases h with h | ⟨o, h⟩ <;> rcases g with g | ⟨o', g⟩ <;> rw [h] at g <;> cases g
  · rfl
  · exact absurd rfl (hu _ _)
  · exact absurd rfl (hv _ _)
  · rfl
theorem Fq.rdO (q : Fq H H' d kvs) {a : Addr} {u : HO} (h : Rd H a u) (hu : ∀ o w, u ≠ .frz o w) : Rd H' a u := by
  by_cases e : a = d
  · subst e
    rw [rd_un h q.rd hu (fun _ _ z => by cases z)]
    exact q.rd'
  · rcases h with h | ⟨o, h⟩
    · exact .inl (by rw [q.ne a e]; exact h)
    · exact .inr ⟨o, by rw [q.ne a e]; exact h⟩
theorem Fq.ls (q : Fq H H' d kvs) {a : Addr} {vs : List V} (h : H a = some (.lst vs)) : H' a = some (.lst vs) := by
  have e : a ≠ d := fun z => by
    subst z
    have := rd_un (.inl h) q.rd (fun _ _ z => by cases z) (fun _ _ z => by cases z)
    cases this
  rw [q.ne a e]; exact h
theorem Fq.ts (q : Fq H H' d kvs) {a : Addr} {vs : List V} (h : H a = some (.tup vs)) : H' a = some (.tup vs) := by
  have e : a ≠ d := fun z => by
    subst z
    have := rd_un (.inl h) q.rd (fun _ _ z => by cases z) (fun _ _ z => by cases z)
    cases this
  rw [q.ne a e]; exact h
theorem Fq.ds (q : Fq H H' d kvs) {a : Addr} {us : List (List Key × V)} (h : H a = some (.dT us)) : H' a = some (.dT us) := by
  have e : a ≠ d := fun z => by
    subst z
    have := rd_un (.inl h) q.rd (fun _ _ z => by cases z) (fun _ _ z => by cases z)
    cases this
  rw [q.ne a e]; exact h
theorem Fq.trk (q : Fq H H' d kvs) {a : Addr} (h : H a ≠ none) : H' a ≠ none := by
  by_cases e : a = d
  · subst e; exact rd_some q.rd'
  · rw [q.ne a e]; exact h
mutual
theorem Fq.rep (q : Fq H H' d kvs) : ∀ (x : D) (v : V), Rep K L H x v → Rep K L H' x v
  | .non, v, h => by simpa only [Rep] using h
  | .bl _, v, h => by simpa only [Rep] using h
  | .int _, v, h => by simpa only [Rep] using h
  | .str _, v, h => by simpa only [Rep] using h
  | .tup ds, v, h => by
    simp only [Rep] at h ⊢
    obtain ⟨a, vs, e, t, r⟩ := h
    exact ⟨a, vs, e, ⟨q.ts t.1, t.2⟩, Fq.reps q ds vs r⟩
  | .lst ds, v, h => by
    simp only [Rep] at h ⊢
    obtain ⟨a, vs, e, t, n, r⟩ := h
    exact ⟨a, vs, e, q.ls t, n, Fq.reps q ds vs r⟩
  | .scr ns, v, h => by
    simp only [Rep] at h ⊢
    obtain ⟨a, e, t⟩ := h
    exact ⟨a, e, t.imp (fun ⟨h, n⟩ => ⟨q.rdO h fun _ _ z => (by cases z), n⟩) id⟩
  | .dic ks ds, v, h => by
    simp only [Rep] at h ⊢
    obtain ⟨a, vs, e, t, n, l, r⟩ := h
    exact ⟨a, vs, e, q.rdO t fun _ _ z => (by cases z), n, l, Fq.reps q ds vs r⟩
  | .dct ks ds, v, h => by
    simp only [Rep] at h ⊢
    obtain ⟨a, vs, e, t, n, l, r⟩ := h
    exact ⟨a, vs, e, q.ds t, n, l, Fq.reps q ds vs r⟩
theorem Fq.reps (q : Fq H H' d kvs) : ∀ (ds : List D) (vs : List V), Reps K L H ds vs → Reps K L H' ds vs
  | [], vs, h => by simpa only [Reps] using h
  | x :: ds, vs, h => by
    simp only [Reps] at h ⊢
    obtain ⟨v, r, e, h1, h2⟩ := h
    exact ⟨v, r, e, Fq.rep q x v h1, Fq.reps q ds r h2⟩
end
theorem Fq.cv (q : Fq H H' d kvs) {c : CV} {a : Addr} (h : CvR K L H c a) : CvR K L H' c a := by
  cases c with
  | lst ds => obtain ⟨vs, e, r⟩ := h; exact ⟨vs, q.ls e, Fq.reps q _ _ r⟩
  | dic ks ds => obtain ⟨vs, e, l, r⟩ := h; exact ⟨vs, q.rdO e fun _ _ z => (by cases z), l, Fq.reps q _ _ r⟩
  | dct ks ds => obtain ⟨vs, e, l, r⟩ := h; exact ⟨vs, q.ds e, l, Fq.reps q _ _ r⟩
end
section
variable {K : PySem.W.Frag} {Acc : Addr → Prop} {ι : List Addr} {μ μ2 : Sto} {H H' : Hp} {d : Addr} {kvs : List (Key × V)}
theorem Sim.fq (S : Sim K Acc μ ι H) (q : Fq H H' d kvs) (nl : ¬ Liv Acc μ ι d) : Sim K Acc μ ι H' := by
  refine ⟨S.len, S.nd, fun a h => ⟨(S.acc a h).1, q.trk (S.acc a h).2⟩, fun k c e => ?_, fun a h o ks => ?_⟩
  · obtain ⟨a, e1, r⟩ := S.cell k c e
    exact ⟨a, e1, q.cv r⟩
  · rw [q.ne a fun z => nl (z ▸ h)]; exact S.hot a h o ks
theorem EnvR.fq {ρ : Env} {σ : L2.St} {L : Addr → Prop} (q : Fq H H' d kvs) (E : EnvR K L ι H ρ σ) : EnvR K L ι H' ρ σ := ⟨E.1, fun i s e => by
  obtain ⟨v, e1, r⟩ := E.2 i s e
  refine ⟨v, e1, ?_⟩
  cases s with
  | dat x => exact q.rep _ _ r
  | cel k => exact r⟩
/-- the lock is taken off -/
theorem Stp.unl {od : Obj} (S : Sim K Acc μ ι H) (hd : H d = some (.dK kvs)) (nl : ¬ Liv Acc μ ι d) (t : Stp K Acc ι μ (upd H d (.frz od (.dK kvs))) ι μ2 H') : H' d = some (.frz od (.dK kvs)) ∧ ¬ Liv Acc μ2 ι d ∧ Fq H' (upd H' d (.dK kvs)) d kvs ∧ Stp K Acc ι μ H ι μ2 (upd H' d (.dK kvs)) := by
  have q : Fq H (upd H d (.frz od (.dK kvs))) d kvs := ⟨fun a h => by rw [upd_ne h], .inl hd, .inr ⟨od, upd_same⟩⟩
  have mv := t.mv (S.fq q nl) d _ upd_same nl
  have q2 : Fq H' (upd H' d (.dK kvs)) d kvs := ⟨fun a h => by rw [upd_ne h], .inr ⟨od, mv.1⟩, .inl upd_same⟩
  refine ⟨mv.1, mv.2, q2, t.sim.fq q2 mv.2, ⟨[], by simp, by simp⟩, fun a o e n => ?_, fun a h => q2.trk (t.trk a (q.trk h)), fun a h => (t.liv a h).imp id fun z => ?_⟩
  · by_cases e2 : a = d
    · subst e2; rw [upd_same, ← hd, e]
    · rw [upd_ne e2]
      exact t.keep a o (by rw [upd_ne e2]; exact e) n
  · exact Classical.byContradiction fun z2 => q.trk z2 z
theorem relE.fq {Hb Hb' : Hp} {e : EV} {v : V} {r : List D} (he : e = .new (.lst r)) (q : Fq H H' d kvs) (hb : ∀ p, Hb p = none → Hb' p = none ∧ p ≠ d) (nl : ¬ Liv Acc μ ι d) (h : relE K Acc μ ι Hb H e v) : relE K Acc μ ι Hb' H' e v := by
  subst he
  obtain ⟨⟨p, e, n, c⟩, o⟩ := h
  refine ⟨⟨p, e, (hb p n).1, q.cv c⟩, fun p' e' => ?_⟩
  obtain ⟨s1, c1⟩ := o p' e'
  rw [e] at e'; cases e'
  have nl2 : ¬ Liv (fun a => Acc a ∨ a = p) μ ι d := fun z => by
    rcases z with z | z | z
    · exact nl (.inl z)
    · exact nl (.inr z)
    · exact (hb p n).2 z.symm
  exact ⟨s1.fq q nl2, q.cv c1⟩
end
theorem jr_keys {K : PySem.W.Frag} {Acc : Addr → Prop} {ι : List Addr} {μ : Sto} {H : Hp} {d : Addr} {o : Obj} {ks : List Key} {vs : List V} (hd : H d = some (.frz o (.dK (ks.zip vs)))) (nl : ¬ Liv Acc μ ι d) (hl : ks.length = vs.length) :
    JR K (Itk d o (ks.zip vs)) (.vals (keysD ks)) Acc ι μ H := by
  intro Acc' ι' μ' H' S m _ es he i
  cases he
  have hd' := (m d _ hd nl).1
  have hz : (ks.zip vs).length = ks.length := by rw [List.length_zip, hl, Nat.min_self]
  refine ⟨fun x hx => ?_, fun hle => ⟨hd', by rw [hz]; simpa [keysD] using hle⟩⟩
  unfold keysD at hx
  rw [List.getElem?_map] at hx
  cases e : ks[i]? with
  | none => rw [e] at hx; cases hx
  | some k =>
    rw [e] at hx
    cases hx
    have hi := (List.getElem?_eq_some_iff.mp e).1
    refine ⟨⟨hd', by rw [hz]; exact hi⟩, fun v H'' y => ?_⟩
    obtain ⟨rfl, k', w, e2, rfl⟩ := y
    have : k' = k := by
      rw [List.getElem?_zip_eq_some] at e2
      have := e2.1
      rw [e] at this
      cases this; rfl
    subst this
    refine ⟨.refl S, ?_⟩
    cases k' with
    | inl i => exact rep_int
    | inr x => simp only [keyD, Rep]; rfl
section
variable {K : PySem.W.Frag} {XC : Nat → Addr} {F : Fns} {W : WX} {σ : L2.St} {H : Hp} {i : Nat}
/-- what slot i holds is a locked dict -/
theorem rdI_keys {R : It → Hp → Prop} {d : Addr} {o : Obj} {kvs : List (Key × V)} (hσ : ∀ v, σ[i]? = some (some v) → v = .ref d) (hd : H d = some (.frz o (.dK kvs))) (h : rdI K XC F W (iKeyS i) σ H R) : iKeys (tVar i) σ H R := by
  obtain ⟨Acc, ι, ρ, μ, S, E, h⟩ := h
  unfold iKeyS at h
  have fin : ∀ (v : V) (ks : List Key) (vs : List V), σ[i]? = some (some v) → ¬ Liv Acc μ ι d → Rd H d (.dK (ks.zip vs)) → ks.length = vs.length →
      (∀ J H', Stp K Acc ι μ H ι μ H' → JR K J (.vals (keysD ks)) Acc ι μ H' → R J H') → iKeys (tVar i) σ H R := fun v ks vs e2 nl hrd hl h => by
    have ev := hσ v e2
    subst ev
    have ek : kvs = ks.zip vs := by
      have := rd_un (.inr ⟨o, hd⟩) hrd (fun _ _ z => by cases z) (fun _ _ z => by cases z)
      cases this; rfl
    subst ek
    exact ⟨_, e2, d, o, rfl, .inl ⟨_, hd, h _ H (.refl S) (jr_keys hd nl hl)⟩⟩
  cases e : ρ[i]? with
  | none => rw [e] at h; exact h.elim
  | some os =>
    cases os with
    | none => rw [e] at h; exact h.elim
    | some s =>
      obtain ⟨v, e2, rs⟩ := E.2 i s e
      rw [e] at h
      cases s with
      | dat x =>
        cases x with
        | dic ks ds =>
          simp only [SvR, Rep] at rs
          obtain ⟨a, vs, rfl, hrd, nl, l, r⟩ := rs
          have ev := hσ _ e2
          cases ev
          exact fin _ ks vs e2 nl hrd (by rw [l, r.len]) h
        | _ => exact h.elim
      | cel k =>
        simp only at h
        cases hc : μ[k]? with
        | none => rw [hc] at h; exact h.elim
        | some c =>
          rw [hc] at h
          obtain ⟨lv, cv⟩ := c
          cases lv with
          | true => exact h.elim
          | false =>
            cases cv with
            | lst _ => exact h.elim
            | dct _ _ => exact h.elim
            | dic ks ds =>
              obtain ⟨a, e3, rfl⟩ := id rs
              have ev := hσ _ e2
              cases ev
              obtain ⟨a', e4, r⟩ := S.cell k _ hc
              rw [e3] at e4; cases e4
              obtain ⟨vs, hrd, l, r⟩ := r
              refine fin _ ks vs e2 (fun z => ?_) hrd (by rw [l, r.len]) h
              rcases z with ⟨j, c', e5, l5, h5⟩ | z
              · have hi : k < ι.length := (List.getElem?_eq_some_iff.mp e3).1
                have : k = j := (List.getElem?_inj hi S.nd).mp (e3.trans h5.symm)
                subst this
                rw [hc] at e5; cases e5; cases l5
              · exact (S.acc _ z).1 (List.mem_of_getElem? e3)
/-- what slot i must be for the keys to be gone through -/
theorem key_slot {ρ : Env} {Acc : Addr → Prop} {ι : List Addr} {μ : Sto} (S : Sim K Acc μ ι H) (E : EnvR K (Liv Acc μ ι) ι H ρ σ) (h : ∀ r, iKeyS i F ρ (stillS i ρ μ) = r → r ≠ .bad) :
    ∃ (d : Addr) (kvs : List (Key × V)), (∀ v, σ[i]? = some (some v) → v = .ref d) ∧ Rd H d (.dK kvs) ∧ Stp K Acc ι μ H ι (stillS i ρ μ) H ∧ ¬ Liv Acc (stillS i ρ μ) ι d := by
  unfold iKeyS at h
  unfold stillS at h ⊢
  cases e : ρ[i]? with
  | none => rw [e] at h; exact absurd rfl (h _ rfl)
  | some os =>
    cases os with
    | none => rw [e] at h; exact absurd rfl (h _ rfl)
    | some s =>
      obtain ⟨v, e2, rs⟩ := E.2 i s e
      rw [e] at h
      cases s with
      | dat x =>
        cases x with
        | dic ks ds =>
          simp only [SvR, Rep] at rs
          obtain ⟨a, vs, rfl, hrd, nl, l, r⟩ := rs
          exact ⟨a, _, fun v z => by rw [e2] at z; cases z; rfl, hrd, .refl S, nl⟩
        | _ => exact absurd rfl (h _ rfl)
      | cel k =>
        simp only at h ⊢
        cases hc : μ[k]? with
        | none => rw [hc] at h; simp only [hc] at h; exact absurd rfl (h _ rfl)
        | some c =>
          rw [hc] at h
          have hk := (List.getElem?_eq_some_iff.mp hc).1
          simp only [List.getElem?_set_self hk] at h
          obtain ⟨lv, cv⟩ := c
          cases cv with
          | lst _ => exact absurd rfl (h _ rfl)
          | dct _ _ => exact absurd rfl (h _ rfl)
          | dic ks ds =>
            obtain ⟨a, e3, rfl⟩ := id rs
            obtain ⟨a', e4, r⟩ := S.cell k _ hc
            rw [e3] at e4; cases e4
            obtain ⟨vs, hrd, l, r⟩ := r
            obtain ⟨st, nl⟩ := S.still hc
            exact ⟨a, _, fun v z => by rw [e2] at z; cases z; rfl, hrd, st, nl a e3⟩
theorem lck_read {t : Tgt} {fi : SB} {fe : SE} {vs : List Nat} {Q : VK} (hsl : ∀ i ∈ t.slots, i ∈ vs) (h : rdE K XC F W (eLcK i t fi fe vs) σ H Q) :
    tLc (iKeys (tVar i)) (gT K t) (rdB K XC F W0 fi) (rdE K XC F W0 fe) vs σ H Q ∨ tLockE (tLc (iKeys (tVar i)) (gT K t) (rdB K XC F W0 fi) (rdE K XC F W0 fe) vs) σ H Q := by
  obtain ⟨Acc, ι, ρ, μ, S, E, h⟩ := h
  have hb : ∀ r, iKeyS i F ρ (stillS i ρ μ) = r → r ≠ .bad := fun r e z => by
    subst z
    unfold eLcK eLc at h
    rw [e] at h
    exact h
  obtain ⟨d, kvs, hσ, hrd, st, nl⟩ := key_slot S E hb
  have E1 := E.mv st S
  -- what the inner run gives
  have inner : ∀ (Hf : Hp) (Q' : VK), Sim K Acc (stillS i ρ μ) ι Hf → EnvR K (Liv Acc (stillS i ρ μ) ι) ι Hf ρ σ → (∀ r μ2 b H', Stp K Acc ι (stillS i ρ μ) Hf ι μ2 H' → relE K Acc μ2 ι Hf H' (.new (.lst r)) b →
      (∀ b H'', Stp K Acc ι μ H ι μ2 H'' → relE K Acc μ2 ι H H'' (.new (.lst r)) b → Q b H'') → Q' b H') → rdE K XC F W (eLc (iKeyS i) t fi fe vs) σ Hf Q' := fun Hf Q' Sf Ef hq => by
    refine ⟨Acc, ι, ρ, stillS i ρ μ, Sf, Ef, ?_⟩
    unfold eLcK at h
    cases el : eLc (iKeyS i) t fi fe vs F ρ (stillS i ρ μ) with
    | bad => rw [el] at h; exact h.elim
    | exc x μ2 => rw [el] at h; exact h.elim
    | ok v μ2 =>
      rw [el] at h
      cases v with
      | dat _ => exact h.elim
      | cel _ => exact h.elim
      | new c =>
        cases c with
        | dic _ _ => exact h.elim
        | dct _ _ => exact h.elim
        | lst r => exact fun b H' t' rl => hq r μ2 b H' t' rl h
  rcases hrd with hd | ⟨o, hd⟩
  · refine .inr ⟨d, .dK kvs, hd, True.intro, fun od => ?_⟩
    have q : Fq H (upd H d (.frz od (.dK kvs))) d kvs := ⟨fun a h => by rw [upd_ne h], .inl hd, .inr ⟨od, upd_same⟩⟩
    have rr := inner (upd H d (.frz od (.dK kvs))) (fun v H' => H' d = some (.frz od (.dK kvs)) ∧ Q v (upd H' d (.dK kvs))) (st.sim.fq q nl) (E1.fq q) fun r μ2 b H' t' rl h => by
      obtain ⟨u1, u2, u3, u4⟩ := Stp.unl st.sim hd nl t'
      refine ⟨u1, h b _ (st.trans u4) ?_⟩
      refine relE.fq rfl u3 (fun p hp => ?_) u2 rl
      have ne : p ≠ d := fun z => by rw [z, upd_same] at hp; cases hp
      rw [upd_ne ne] at hp
      exact ⟨hp, ne⟩
    have lr := lc_read hsl rr
    exact rdI_keys hσ upd_same lr
  · refine .inl ?_
    have rr := inner H Q st.sim E1 fun r μ2 b H' t' rl h => h b _ (st.trans t') rl
    exact rdI_keys hσ hd (lc_read hsl rr)
end
section
variable {X : Cx} {XC : Nat → Addr} {F : Fns} {W : WX} {elt tg : Expr} {ifs : List Expr} {pos ip : Pos}
theorem PE.or {e : Expr} {t t' : TE} (h : PE X e t) (g : PE X e t') : PE X e (fun σ H Q => t σ H Q ∨ t' σ H Q) := ⟨fun pins s σ H Q I z => z.elim (h.run pins s σ H Q I) (g.run pins s σ H Q I)⟩
theorem c_lck {i : Nat} {x : Str} {scope : Scope} {own : List (Str × Nat)} {t : Tgt} {fc : SB} {fe : SE} {vs : List Nat} (hc : X.calm = true) (hN : X.N.Nodup) (hi : PE X (.Name x ip) (tVar i)) (ok : BlkOk X.N X.env.scope scope own) (hsl : ∀ i ∈ t.slots, i ∈ vs) (hv : own.map (·.2) = vs)
    (hg : ∀ (s : Shared) (H : Hp) (C : Addr) (cl : List (Str × Addr)) (fp : List Addr), PG (X.blk s H scope (compEnvC scope cl C X.env) fp) tg (gT X.K t))
    (ht : ∀ (s : Shared) (H : Hp) (C : Addr) (cl : List (Str × Addr)) (fp : List Addr), PTs (X.blk s H scope (compEnvC scope cl C X.env) fp) ifs (rdB X.K XC F W0 fc))
    (he : ∀ (s : Shared) (H : Hp) (C : Addr) (cl : List (Str × Addr)) (fp : List Addr), PE (X.blk s H scope (compEnvC scope cl C X.env) fp) elt (rdE X.K XC F W0 fe)) (hs : ∀ x', foldedSetIterable (.Name x ip) X.env x' = pure x' := by intro _; rfl) :
    PE X (.ListComp elt [⟨tg, .Name x ip, ifs, 0⟩] scope pos) (rdE X.K XC F W (eLcK i t fc fe vs)) := by
  subst hv
  have p1 := pe_lc (pos := pos) hc hN (pi_keys hi) ok hg ht he hs
  exact PEimp (PE.or p1 (pe_lock p1)) fun σ H Q h => lck_read hsl h
theorem w_n (i : Nat) {x : Str} (hN : X.N[i]? = some x := by rfl) (hv : Vis X.env.scope x := by first | exact Or.inl rfl | exact Or.inr (Or.inl rfl) | exact Or.inr (Or.inr rfl)) (hd : (x == ("__debug__" : Str)) = false := by decide) (hcd : (x == ("__classdict__" : Str)) = false := by decide) : PE X (.Name x pos) (tVar i) := pe_var hN hv hd hcd
end
end VM
/-! Loops over a dict's keys. -/
namespace VM
open PySem L2 PyProof.Rows
section
variable {K : PySem.W.Frag} {XC : Nat → Addr} {F : Fns} {W : WX}
theorem for_read {fi : SI} {g : SG} {fb : SS} {D : Ends} {σ : L2.St} {H : Hp} (h : rdS K XC F W (sFor fi g fb) D σ H) : tFor (rdI K XC F W fi) (rdG K XC F W g) (rdS K XC F W fb) D σ H := by
  obtain ⟨Acc, ι, ρ, μ, S, E, h⟩ := h
  refine ⟨Acc, ι, ρ, μ, S, E, ?_⟩
  unfold sFor at h
  cases e0 : fi F ρ μ with
  | bad => rw [e0] at h; exact h
  | exc x μ1 => rw [e0] at h; exact fun c d H' t e => h ι H' c d σ t e
  | ok s μ1 =>
    rw [e0] at h
    simp only [Res.bind] at h
    intro J H1 t1 jr
    refine ⟨fun i m σ H => ∃ (Acc' : Addr → Prop) (ι' : List Addr) (ρ' : Env) (μ' : Sto), Sim K Acc' μ' ι' H ∧ EnvR K (Liv Acc' μ' ι') ι' H ρ' σ ∧ Mv (Liv Acc μ1 ι) H1 (Liv Acc' μ' ι') H ∧ (∀ (k : Nat) a, ι[k]? = some a → ι'[k]? = some a) ∧
      wpS K XC W Acc' ι' μ' H (forL F s g fb m i ρ' μ') D, ⟨s.len μ1 + 1, Acc, ι, ρ, μ1, t1.sim, E.mv t1 S, fun a o e n => ⟨e, n⟩, fun k a e => e, wpS.shift t1 h⟩, ?_⟩
    rintro i m σ' H' ⟨Acc', ι', ρ', μ', S', E', m', pr, h'⟩
    cases m with
    | zero => exact h'.elim
    | succ m =>
      unfold forL at h'
      cases ea : s.at μ' with
      | none => rw [ea] at h'; exact h'.elim
      | some ds =>
        rw [ea] at h'
        simp only at h'
        have j := jr Acc' ι' μ' H' S' m' pr ds ea i
        cases ei : ds[i]? with
        | none =>
          rw [ei] at h'
          exact .inl ⟨j.2 (List.getElem?_eq_none_iff.mp ei), h' ι' H' σ' (.refl S') E'⟩
        | some d =>
          rw [ei] at h'
          simp only at h'
          obtain ⟨jg, jy⟩ := j.1 d ei
          refine .inr ⟨jg, fun σ H => ∃ (Acc' : Addr → Prop) (ι' : List Addr) (ρ' : Env) (μ' : Sto), Sim K Acc' μ' ι' H ∧ EnvR K (Liv Acc' μ' ι') ι' H ρ' σ ∧ Mv (Liv Acc μ1 ι) H1 (Liv Acc' μ' ι') H ∧ (∀ (k : Nat) a, ι[k]? = some a → ι'[k]? = some a) ∧
            wpS K XC W Acc' ι' μ' H (forL F s g fb m (i + 1) ρ' μ') D, fun σ2 H2 q => ⟨m, Nat.lt_succ_self m, q⟩, fun x Hy hy => ?_⟩
          obtain ⟨ty, ry⟩ := jy x Hy hy
          refine ⟨Acc', ι', ρ', μ', d, ty.sim, E'.mv ty S', ry, ?_⟩
          replace h' := wpS.shift ty h'
          have my := m'.trans (ty.mv S')
          cases eg : g d F ρ' μ' with
          | bad => rw [eg] at h'; exact h'
          | exc x2 μ2 => rw [eg] at h'; exact fun c d σ2 H2 t2 e2 => h' ι' H2 c d σ2 t2 e2
          | ok ρ2 μ2 =>
            rw [eg] at h'
            simp only [Res.bind] at h'
            intro σ2 H2 t2 E2
            refine ⟨Acc', ι', ρ2, μ2, t2.sim, E2, ?_⟩
            replace h' := wpS.shift t2 h'
            have my2 := my.trans (t2.mv ty.sim)
            cases eb : fb F ρ2 μ2 with
            | bad => rw [eb] at h'; exact h'
            | exc x3 μ3 => rw [eb] at h'; exact h'
            | ok o μ3 =>
              rw [eb] at h'
              cases o with
              | rt v => exact h'
              | bk ρ3 => exact fun ι3 H3 σ3 t3 E3 => h' ι3 H3 σ3 t3 E3
              | nx ρ3 => exact fun ι3 H3 σ3 t3 E3 => ⟨Acc', ι3, ρ3, μ3, t3.sim, E3, my2.trans (t3.mv t2.sim), fun k a e => t3.get (pr k a e), wpS.shift t3 h'⟩
              | ct ρ3 => exact fun ι3 H3 σ3 t3 E3 => ⟨Acc', ι3, ρ3, μ3, t3.sim, E3, my2.trans (t3.mv t2.sim), fun k a e => t3.get (pr k a e), wpS.shift t3 h'⟩
end
section
variable {K : PySem.W.Frag} {XC : Nat → Addr} {F : Fns} {W : WX} {Acc : Addr → Prop} {ι ι' : List Addr} {μ μ2 : Sto} {H H' : Hp} {d : Addr} {kvs : List (Key × V)} {σ : L2.St}
theorem Stp.unl' {od : Obj} (S : Sim K Acc μ ι H) (hd : H d = some (.dK kvs)) (nl : ¬ Liv Acc μ ι d) (t : Stp K Acc ι μ (upd H d (.frz od (.dK kvs))) ι' μ2 H') : H' d = some (.frz od (.dK kvs)) ∧ ¬ Liv Acc μ2 ι' d ∧ Fq H' (upd H' d (.dK kvs)) d kvs ∧ Stp K Acc ι μ H ι' μ2 (upd H' d (.dK kvs)) := by
  have q : Fq H (upd H d (.frz od (.dK kvs))) d kvs := ⟨fun a h => by rw [upd_ne h], .inl hd, .inr ⟨od, upd_same⟩⟩
  have mv := t.mv (S.fq q nl) d _ upd_same nl
  have q2 : Fq H' (upd H' d (.dK kvs)) d kvs := ⟨fun a h => by rw [upd_ne h], .inr ⟨od, mv.1⟩, .inl upd_same⟩
  have back : ∀ a, upd H d (.frz od (.dK kvs)) a = none → H a = none := fun a z => Classical.byContradiction fun z2 => q.trk z2 z
  obtain ⟨ex, e1, e2⟩ := t.pre
  refine ⟨mv.1, mv.2, q2, t.sim.fq q2 mv.2, ⟨ex, e1, fun a ha => back a (e2 a ha)⟩, fun a o e n => ?_, fun a h => q2.trk (t.trk a (q.trk h)), fun a h => (t.liv a h).imp id (back a)⟩
  by_cases e3 : a = d
  · subst e3; rw [upd_same, ← hd, e]
  · rw [upd_ne e3]
    exact t.keep a o (by rw [upd_ne e3]; exact e) n
theorem EvR.fq {L : Addr → Prop} {Hb Hb' : Hp} {e : EV} {v : V} (q : Fq H H' d kvs) (hb : ∀ p, Hb p = none → Hb' p = none) (h : EvR K L ι Hb H e v) : EvR K L ι Hb' H' e v := by
  cases e with
  | dat x => exact q.rep _ _ h
  | cel k => exact h
  | new c => obtain ⟨p, e, n, r⟩ := h; exact ⟨p, e, hb p n, q.cv r⟩
theorem OwnR.fq {Hb : Hp} {e : EV} {v : V} (q : Fq H H' d kvs) (nl : ¬ Liv Acc μ ι d) (hb : ∀ p, Hb p = none → p ≠ d) (r : EvR K (Liv Acc μ ι) ι Hb H e v) (h : OwnR K Acc μ ι H e v) : OwnR K Acc μ ι H' e v := by
  cases e with
  | dat x => trivial
  | cel k => trivial
  | new c =>
    intro p' e'
    obtain ⟨s1, c1⟩ := h p' e'
    obtain ⟨p, e, n, _⟩ := r
    have ep : p = p' := by rw [e] at e'; injection e'
    have nl2 : ¬ Liv (fun a => Acc a ∨ a = p') μ ι d := fun z => by
      rcases z with z | z | z
      · exact nl (.inl z)
      · exact nl (.inr z)
      · exact hb p n (ep.trans z.symm)
    exact ⟨s1.fq q nl2, q.cv c1⟩
/-- the ends behind a lock -/
def lkE (d : Addr) (od : Obj) (u : HO) (D : Ends) : Ends := ⟨fun σ' H' => H' d = some (.frz od u) ∧ D.nx σ' (upd H' d u), fun v H' => H' d = some (.frz od u) ∧ D.rt v (upd H' d u), fun σ' H' => H' d = some (.frz od u) ∧ D.bk σ' (upd H' d u), fun σ' H' => H' d = some (.frz od u) ∧ D.ct σ' (upd H' d u)⟩
theorem wpS.lock {od : Obj} {r : Res SO} {D : Ends} (S : Sim K Acc μ ι H) (hd : H d = some (.dK kvs)) (nl : ¬ Liv Acc μ ι d) (hx : ∀ x μ', r ≠ .exc x μ') (h : wpS K XC W Acc ι μ H r D) : wpS K XC W Acc ι μ (upd H d (.frz od (.dK kvs))) r (lkE d od (.dK kvs) D) := by
  cases r with
  | bad => exact h
  | exc x μ' => exact absurd rfl (hx x μ')
  | ok o μ' =>
    cases o with
    | nx ρ' => exact fun ι' H' σ' t' e => let ⟨u1, u2, u3, u4⟩ := Stp.unl' S hd nl t'; ⟨u1, h ι' _ σ' u4 (e.fq u3)⟩
    | bk ρ' => exact fun ι' H' σ' t' e => let ⟨u1, u2, u3, u4⟩ := Stp.unl' S hd nl t'; ⟨u1, h ι' _ σ' u4 (e.fq u3)⟩
    | ct ρ' => exact fun ι' H' σ' t' e => let ⟨u1, u2, u3, u4⟩ := Stp.unl' S hd nl t'; ⟨u1, h ι' _ σ' u4 (e.fq u3)⟩
    | rt v =>
      intro ι' H' u t' e o
      obtain ⟨u1, u2, u3, u4⟩ := Stp.unl' S hd nl t'
      have hb : ∀ p, upd H d (.frz od (.dK kvs)) p = none → H p = none ∧ p ≠ d := fun p hp => by
        have ne : p ≠ d := fun z => by rw [z, upd_same] at hp; cases hp
        rw [upd_ne ne] at hp
        exact ⟨hp, ne⟩
      exact ⟨u1, h ι' _ u u4 (e.fq u3 fun p hp => (hb p hp).1) (OwnR.fq u3 u2 (fun p hp => (hb p hp).2) e o)⟩
end
def sForK (i : Nat) (g : SG) (b : SS) : SS := fun F ρ μ => match sFor (iKeyS i) g b F ρ (stillS i ρ μ) with
  | .exc _ _ => .bad
  | r => r
section
variable {K : PySem.W.Frag} {XC : Nat → Addr} {F : Fns} {W : WX} {σ : L2.St} {H : Hp} {i : Nat}
theorem fork_read {g : SG} {fb : SS} {D : Ends} (h : rdS K XC F W (sForK i g fb) D σ H) :
    tFor (iKeys (tVar i)) (rdG K XC F W g) (rdS K XC F W fb) D σ H ∨ tLock (tFor (iKeys (tVar i)) (rdG K XC F W g) (rdS K XC F W fb)) D σ H := by
  obtain ⟨Acc, ι, ρ, μ, S, E, h⟩ := h
  unfold sForK at h
  have hb : ∀ r, iKeyS i F ρ (stillS i ρ μ) = r → r ≠ .bad := fun r e z => by
    subst z
    unfold sFor at h
    rw [e] at h
    exact h
  obtain ⟨d, kvs, hσ, hrd, st, nl⟩ := key_slot S E hb
  have E1 := E.mv st S
  cases ef : sFor (iKeyS i) g fb F ρ (stillS i ρ μ) with
  | bad => rw [ef] at h; exact h.elim
  | exc x μ' => rw [ef] at h; exact h.elim
  | ok o μ' =>
    rw [ef] at h
    have h2 := wpS.shift st h
    rcases hrd with hd | ⟨od, hd⟩
    · refine .inr ⟨d, .dK kvs, hd, True.intro, fun od => ?_⟩
      have q : Fq H (upd H d (.frz od (.dK kvs))) d kvs := ⟨fun a h => by rw [upd_ne h], .inl hd, .inr ⟨od, upd_same⟩⟩
      have rr : rdS K XC F W (sFor (iKeyS i) g fb) (lkE d od (.dK kvs) D) σ (upd H d (.frz od (.dK kvs))) := ⟨Acc, ι, ρ, stillS i ρ μ, st.sim.fq q nl, E1.fq q, by
        rw [ef]
        exact wpS.lock st.sim hd nl (fun x m z => by cases z) h2⟩
      exact rdI_keys hσ upd_same (for_read rr)
    · refine .inl ?_
      have rr : rdS K XC F W (sFor (iKeyS i) g fb) D σ H := ⟨Acc, ι, ρ, stillS i ρ μ, st.sim, E1, by rw [ef]; exact h2⟩
      exact rdI_keys hσ hd (for_read rr)
end
section
variable {X : Cx} {XC : Nat → Addr} {F : Fns} {W : WX} {pos ip : Pos}
theorem PS.or {st : Stmt} {t t' : TS} (h : PS X st t) (g : PS X st t') : PS X st (fun D σ H => t D σ H ∨ t' D σ H) := ⟨fun pins s σ H D I z => z.elim (h.run pins s σ H D I) (g.run pins s σ H D I)⟩
theorem s_fork {tg : Expr} {x : Str} {body : List Stmt} {i : Nat} {g : SG} {fb : SS} (hp : PassesOwn (model X.prog X.w) X.A X.env X.xe) (hc : X.calm = true) (hi : PE X (.Name x ip) (tVar i)) (hg : PG X tg (rdG X.K XC F W g)) (hb : PSs X body (rdS X.K XC F W fb))
    (hs : ∀ x', foldedSetIterable (.Name x ip) X.env x' = pure x' := by intro _; rfl) : PS X (.For tg (.Name x ip) body [] pos) (rdS X.K XC F W (sForK i g fb)) := by
  have p1 := ps_for (pos := pos) hp hc (pi_keys hi) hg hb hs
  exact PSimp (PS.or p1 (ps_lock p1)) fun D σ H h => fork_read h
end
end VM
/-! str(number), text.isupper(). -/
namespace VM
open PySem L2 PyProof.Rows
def bStr : List D → Option EV
  | [.int i] => if i.natAbs.log2 < 1920 then some (.dat (.str (toString i))) else none
  | _ => none
def eUpper (o : SE) : SE := fun F ρ μ => (o F ρ μ).bind fun v μ1 => match v.see μ1 with
  | some (.str a) => .ok (.dat (.bl (Txt.isupper a))) μ1
  | _ => .bad
section
variable {X : Cx} {XC : Nat → Addr} {F : Fns} {W : WX} {o : Expr} {fo : SE} {apos cpos : Pos}
theorem on_str : OpN X.K bStr (fun xs H Q => ∃ i, xs = [.int i] ∧ i.natAbs.log2 < 1920 ∧ Q (.str (toString i)) H) := by
  intro Acc ι μ H ds xs e Q S r h q
  unfold bStr at h
  split at h
  · rename_i i
    split at h
    · rename_i hl
      cases h
      replace r := sees1 r; obtain ⟨x, rfl, r⟩ := r
      rw [seeI r]
      exact ⟨_, rfl, hl, fin_dat S q rep_str⟩
    · cases h
  · cases h
theorem c_upper (ho : PE X o (rdE X.K XC F W fo)) (hbase : attributeBase o "isupper" X.env (eval o X.env) = eval o X.env := by rfl) (hline : (apos.endLine == cpos.line) = true := by rfl) :
    PE X (.Call (.Attribute o "isupper" apos) [] [] cpos) (rdE X.K XC F W (eUpper fo)) :=
  PEimp (pe_bm0 PySem.F.plainAttrs_str PySem.F.slot_str_isupper PySem.F.type_str_isupper mt_isupper ho hbase hline) fun σ H Q ⟨Acc, ι, ρ, μ, S, E, h⟩ => by
    unfold eUpper at h
    refine rd.bind (Stp.refl S) E h fun v μ1 x H1 _ t1 r1 h1 => ?_
    cases hs1 : v.see μ1 with
    | none => rw [hs1] at h1; exact h1.elim
    | some d1 =>
      rw [hs1] at h1
      cases d1 <;> try exact h1.elim
      rename_i a
      simp only at h1
      have ra := see_ok t1.sim r1.1 hs1
      rw [seeS ra]
      refine ⟨rfl, a, rfl, rfl, trivial, ?_⟩
      exact h1 (.bl (Txt.isupper a)) H1 t1 ⟨(rep_bl (K := X.K) (L := Liv Acc μ1 ι) (H := H1)), trivial⟩
end
@[simp] theorem x_upper {o : SE} {F : Fns} {ρ : Env} {μ : Sto} : eUpper o F ρ μ = (o F ρ μ).bind fun v μ1 => match v.see μ1 with
  | some (.str a) => .ok (.dat (.bl (Txt.isupper a))) μ1
  | _ => .bad := rfl
end VM
/-! Loops over zip of two lists, which stand still from then on. -/
namespace VM
open PySem L2 PyProof.Rows
theorem jr_zipL {K : PySem.W.Frag} {Acc : Addr → Prop} {ι : List Addr} {μ : Sto} {H : Hp} {a b : Addr} {ds es : List D} {xs ys : List V} (ha : LstN K (Liv Acc μ ι) H a xs) (hb : LstN K (Liv Acc μ ι) H b ys) (ra : Reps K (Liv Acc μ ι) H ds xs) (rb : Reps K (Liv Acc μ ι) H es ys) :
    JR K (Itz K a b) (.vals (List.zipWith pairD ds es)) Acc ι μ H := by
  intro Acc' ι' μ' H' S m _ fs he i
  cases he
  have ha' := ha.mv m
  have hb' := hb.mv m
  have ra' := Reps.mv m _ _ ra
  have rb' := Reps.mv m _ _ rb
  refine ⟨fun d hd => ?_, fun hl => ⟨xs, ys, ha'.sq, hb'.sq, ?_⟩⟩
  · rw [List.getElem?_zipWith] at hd
    cases e1 : ds[i]? with
    | none => rw [e1] at hd; cases hd
    | some d1 =>
      cases e2 : es[i]? with
      | none => rw [e1, e2] at hd; cases hd
      | some d2 =>
        rw [e1, e2] at hd
        cases hd
        obtain ⟨x, hx, rx⟩ := ra'.get e1
        obtain ⟨y, hy, ry⟩ := rb'.get e2
        refine ⟨⟨xs, ys, x, y, ha'.sq, hb'.sq, hx, hy⟩, fun v H'' yl => ?_⟩
        obtain ⟨T, x', y', rfl, nT, rfl, fx, fy⟩ := yl
        have ex := fx xs ha'.sq
        have ey := fy ys hb'.sq
        rw [hx] at ex
        rw [hy] at ey
        cases ex
        cases ey
        exact ⟨S.up nT _, S.newT nT (Reps.cons rx (Reps.cons ry Reps.nil))⟩
  · rw [ra'.len, rb'.len]
    rw [List.length_zipWith] at hl
    omega
def zipSrcL : List D → Option Src
  | [.lst ds, .lst es] => some (.vals (List.zipWith pairD ds es))
  | _ => none
theorem zipSrcL_eq {l : List D} {s : Src} (h : zipSrcL l = some s) : ∃ ds es, l = [.lst ds, .lst es] ∧ s = .vals (List.zipWith pairD ds es) := by
  unfold zipSrcL at h
  split at h
  · cases h; exact ⟨_, _, rfl, rfl⟩
  · cases h
def iZipL (f : SA) : SI := fun F ρ μ => (f F ρ μ).bind fun vs μ1 => match frzs vs μ1 with
  | some (l, μ2) => match zipSrcL l with
    | some s => .ok s μ2
    | none => .bad
  | none => .bad
section
variable {X : Cx} {XC : Nat → Addr} {F : Fns} {W : WX} {e e2 : Expr} {fs : SA} {p p2 pos tpos q : Pos} {elts : List Expr} {kk : Nat} {σ : L2.St} {H : Hp}
theorem rdI_zipL {R : It → Hp → Prop} (h : rdI X.K XC F W (iZipL fs) σ H R) : RZ.iZipA X.K (rdA X.K XC F W fs) σ H R := by
  obtain ⟨Acc, ι, ρ, μ, S, E, h⟩ := h
  refine ⟨Acc, ι, ρ, μ, S, E, ?_⟩
  unfold iZipL at h
  cases hf : fs F ρ μ with
  | exc x μ1 => rw [hf] at h; exact h
  | bad => rw [hf] at h; exact h.elim
  | ok vs μ1 =>
    rw [hf] at h
    simp only [Res.bind] at h
    intro us H1 t1 r1
    cases es : frzs vs μ1 with
    | none => rw [es] at h; exact h.elim
    | some dd =>
      obtain ⟨dd, μ2⟩ := dd
      rw [es] at h
      obtain ⟨t2, sr⟩ := frzs_ok t1.sim (fun a ha => S.trk ha) S.accT r1 es
      simp only at h
      cases ez : zipSrcL dd with
      | none => rw [ez] at h; exact h.elim
      | some s0 =>
        rw [ez] at h
        obtain ⟨ds, es, rfl, rfl⟩ := zipSrcL_eq ez
        simp only [Reps, Rep] at sr
        obtain ⟨v, rs, rfl, ⟨a, vs, rfl, tp, na, rp⟩, v2, rs2, rfl, ⟨b, ws, rfl, tq, nb, rq⟩, rfl⟩ := sr
        exact ⟨a, b, vs, ws, rfl, .inl ⟨SqL.of tp, SqL.of tq, h _ H1 (t1.trans t2) (jr_zipL (.inl ⟨.inl tp, na⟩) (.inl ⟨.inl tq, nb⟩) rp rq)⟩⟩
theorem wi_zipL (hm : X.mg "zip" = none) (ha : PA X [e, e2] (rdA X.K XC F W fs)) (hg : Gl X "zip" := by rfl) (hs : starEach [e, e2] X.env = (false, eval e X.env) :: starEach [e2] X.env := by rfl) (hpl : (backTo pos (starEach [e2] X.env)).any (·.1) = false := by rfl) :
    PI X (.Tuple elts kk tpos) (.Call (.Name "zip" p) [e, e2] [] pos) (rdI X.K XC F W (iZipL fs)) := PIimp (RZ.pi_zipA hg hm ha hs hpl) fun _ _ _ h => rdI_zipL h
end
@[simp] theorem x_zipL {f : SA} {F : Fns} {ρ : Env} {μ : Sto} : iZipL f F ρ μ = (f F ρ μ).bind fun vs μ1 => match frzs vs μ1 with
  | some (l, μ2) => match zipSrcL l with
    | some s => .ok s μ2
    | none => .bad
  | none => .bad := rfl
@[simp] theorem x_chain {f g : D → D → Option Bool} {fa fb fc : SE} {F : Fns} {ρ : Env} {μ : Sto} : bChain f g fa fb fc F ρ μ = (fa F ρ μ).bind fun a μ1 => (fb F ρ μ1).bind fun b μ2 => (lift2B f a b μ2).bind fun k μ3 => match k with
  | true => (fc F ρ μ3).bind fun c μ4 => lift2B g b c μ4
  | false => .ok false μ3 := rfl
end VM
/-! a, b, c, d = ..; tuple(range(a, b)); list.clear(). -/
namespace VM
open PySem L2 PyProof.Rows
def sPar4 (i j l m : Nat) (a b c d : SE) : SS := fun F ρ μ => (a F ρ μ).bind fun v μ1 => (b F ρ (v.bnd μ1).2).bind fun w μ2 => (c F ρ (w.bnd μ2).2).bind fun u μ3 => (d F ρ (u.bnd μ3).2).bind fun z μ4 =>
  .ok (.nx ((((ρ.set i (some (v.bnd μ1).1)).set j (some (w.bnd μ2).1)).set l (some (u.bnd μ3).1)).set m (some (z.bnd μ4).1))) (z.bnd μ4).2
def eTupR (a b : SE) : SE := fun F ρ μ => (a F ρ μ).bind fun v μ1 => (b F ρ μ1).bind fun w μ2 => match v.see μ1, w.see μ2 with
  | some (.int i), some (.int j) => if 0 ≤ i ∧ i ≤ 1000000 ∧ 0 ≤ j ∧ j ≤ 1000000 then .ok (.dat (.tup ((List.range (j - i).toNat).map fun n => .int (i + (n : Nat))))) μ2 else .bad
  | _, _ => .bad
def aClear : List D → List D → Option (D × List D)
  | _, [] => some (.non, [])
  | _, _ => none
section
variable {X : Cx} {XC : Nat → Addr} {F : Fns} {W : WX} {pos p p2 q : Pos} {a b c d o : Expr} {fa fb fc fd fo : SE} {apos cpos : Pos}
theorem s_par4 {i j l m : Nat} {x y z t : Str} {px py pz pw pt : Pos} {kt k2 pt2} (hc : X.calm = true) (hN : X.N.Nodup) (hi : X.N[i]? = some x) (hj : X.N[j]? = some y) (hl : X.N[l]? = some z) (hm : X.N[m]? = some t)
    (hx : Loc X.env.scope x) (hy : Loc X.env.scope y) (hz : Loc X.env.scope z) (ht : Loc X.env.scope t)
    (gx : X.fn x = true ∨ X.env.scope.names.lookup x = some .local) (gy : X.fn y = true ∨ X.env.scope.names.lookup y = some .local) (gz : X.fn z = true ∨ X.env.scope.names.lookup z = some .local) (gt : X.fn t = true ∨ X.env.scope.names.lookup t = some .local)
    (ha : PE X a (rdE X.K XC F W fa)) (hb : PE X b (rdE X.K XC F W fb)) (hcc : PE X c (rdE X.K XC F W fc)) (hd : PE X d (rdE X.K XC F W fd))
    (hw : swappedStores [.Tuple [.Name x px, .Name y py, .Name z pz, .Name t pw] kt pt] (.Tuple [a, b, c, d] k2 pt2) X.env = pure none := by rfl)
    (h1 : starEach [a, b, c, d] X.env = (false, eval a X.env) :: starEach [b, c, d] X.env := by rfl) (h2 : starEach [b, c, d] X.env = (false, eval b X.env) :: starEach [c, d] X.env := by rfl) (h3 : starEach [c, d] X.env = (false, eval c X.env) :: starEach [d] X.env := by rfl) (h4 : starEach [d] X.env = (false, eval d X.env) :: starEach [] X.env := by rfl)
    (hs : swapsWithSole [.Tuple [.Name x px, .Name y py, .Name z pz, .Name t pw] kt pt] (.Tuple [a, b, c, d] k2 pt2) pos.line X.env = pure false := by rfl)
    (e1 : (assignEach [.Tuple [.Name x px, .Name y py, .Name z pz, .Name t pw] kt pt] X.env).map (·.2) = [assign (.Tuple [.Name x px, .Name y py, .Name z pz, .Name t pw] kt pt) X.env] := by rfl)
    (q1 : (assignEach [.Name x px, .Name y py, .Name z pz, .Name t pw] X.env).map (·.2) = assign (.Name x px) X.env :: (assignEach [.Name y py, .Name z pz, .Name t pw] X.env).map (·.2) := by rfl)
    (q2 : (assignEach [.Name y py, .Name z pz, .Name t pw] X.env).map (·.2) = assign (.Name y py) X.env :: (assignEach [.Name z pz, .Name t pw] X.env).map (·.2) := by rfl)
    (q3 : (assignEach [.Name z pz, .Name t pw] X.env).map (·.2) = assign (.Name z pz) X.env :: (assignEach [.Name t pw] X.env).map (·.2) := by rfl)
    (q4 : (assignEach [.Name t pw] X.env).map (·.2) = assign (.Name t pw) X.env :: (assignEach [] X.env).map (·.2) := by rfl)
    (qn : (assignEach [.Name x px, .Name y py, .Name z pz, .Name t pw] X.env).length = 4 := by rfl) (qs : (assignEach [.Name x px, .Name y py, .Name z pz, .Name t pw] X.env).findIdx? (·.1) = none := by rfl) :
    PS X (.Assign [.Tuple [.Name x px, .Name y py, .Name z pz, .Name t pw] kt pt] (.Tuple [a, b, c, d] k2 pt2) pos) (rdS X.K XC F W (sPar4 i j l m fa fb fc fd)) :=
  PSimp (ps_asg (pe_tup (pa_cons ha (pa_cons hb (pa_cons hcc (pa_cons hd pa_nil h4) h3) h2) h1)) (pg_tup hc (pgs_cons (pg_name hN hi hx gx) (pgs_cons (pg_name hN hj hy gy) (pgs_cons (pg_name hN hl hz gz) (pgs_cons (pg_name hN hm ht gt) pgs_nil q4) q3) q2) q1) qn qs) hs hw e1) fun D σ H ⟨Acc, ι, ρ, μ, S, E, h⟩ => by
    refine rd.stm (Stp.refl S) E h fun v μ1 c1 H1 t1 r1 h1 => ?_
    obtain ⟨ι1, t1', s1⟩ := bnd_ok S t1 r1.1 r1.2
    refine rd.stm t1' (E.mv t1' S) h1 fun w μ2 c2 H2 t2 r2 h2 => ?_
    obtain ⟨ι2, t2', s2⟩ := bnd_ok t1'.sim t2 r2.1 r2.2
    have t12 := t1'.trans t2'
    refine rd.stm t12 (E.mv t12 S) h2 fun u μ3 c3 H3 t3 r3 h3 => ?_
    obtain ⟨ι3, t3', s3⟩ := bnd_ok t2'.sim t3 r3.1 r3.2
    have t13 := t12.trans t3'
    refine rd.stm t13 (E.mv t13 S) h3 fun zz μ4 c4 H4 t4 r4 h4 => ?_
    obtain ⟨ι4, t4', s4⟩ := bnd_ok t3'.sim t4 r4.1 r4.2
    refine ⟨by show 4 ≤ sizeLine; decide, fun pp hp => ⟨pp, [c1, c2, c3, c4], rfl, .inl (.inl upd_same), rfl, c1, _, rfl, c2, _, rfl, c3, _, rfl, c4, _, rfl, rfl, ?_⟩⟩
    have t5 := t4'.sim.up hp (.tup [c1, c2, c3, c4])
    refine h4 ι4 _ _ ((t13.trans t4').trans t5) ?_
    exact ((((E.mv ((t13.trans t4').trans t5) S).set (s1.mv ((t2'.trans t3').trans (t4'.trans t5)) t1'.sim)).set (s2.mv (t3'.trans (t4'.trans t5)) t2'.sim)).set (s3.mv (t4'.trans t5) t3'.sim)).set (s4.mv t5 t4'.sim)
theorem w_isi2 (T U : Ty) {t u : Str} {e : Expr} {fe : SE} {k : Nat} {p1 p3 p4 : Pos} (hm : X.mg "isinstance" = none) (ht : PE X (.Name t p1) (tC (.ty T.name))) (hu : PE X (.Name u p3) (tC (.ty U.name))) (ha : PE X e (rdE X.K XC F W fe)) (hg : Gl X "isinstance" := by rfl)
    (h1 : starEach [.Name t p1, .Name u p3] X.env = (false, eval (.Name t p1) X.env) :: starEach [.Name u p3] X.env := by rfl) (h2 : starEach [.Name u p3] X.env = (false, eval (.Name u p3) X.env) :: starEach [] X.env := by rfl)
    (he : starEach [e, .Tuple [.Name t p1, .Name u p3] k p4] X.env = (false, eval e X.env) :: starEach [.Tuple [.Name t p1, .Name u p3] k p4] X.env := by rfl) :
    PE X (.Call (.Name "isinstance" p) [e, .Tuple [.Name t p1, .Name u p3] k p4] [] pos) (rdE X.K XC F W (eIsiT [T, U] fe)) :=
  c_isiT hg hm (PAimp (pa_cons ht (pa_cons hu pa_nil h2) h1) fun σ H Q h => h) (by show 2 ≤ 20; decide) ha he
theorem rep_rg {K : PySem.W.Frag} {L : Addr → Prop} {H : Hp} (f : Nat → Int) : ∀ l : List Nat, Reps K L H (l.map fun n => .int (f n)) (l.map fun n => V.int (f n))
  | [] => Reps.nil
  | n :: l => Reps.cons rep_int (rep_rg f l)
theorem c_tupR (hc : X.calm = true) (hm : X.mg "tuple" = none) (hm2 : X.mg "range" = none) (ha : PE X a (rdE X.K XC F W fa)) (hb : PE X b (rdE X.K XC F W fb)) (hg : Gl X "tuple" := by rfl) (hg2 : Gl X "range" := by rfl)
    (na : starEach [a, b] X.env = (false, eval a X.env) :: starEach [b] X.env := by rfl) (nb : starEach [b] X.env = (false, eval b X.env) :: starEach [] X.env := by rfl) (hp : (backTo q (starEach [b] X.env)).any (·.1) = false := by rfl)
    (ne : starEach [.Call (.Name "range" p2) [a, b] [] q] X.env = (false, eval (.Call (.Name "range" p2) [a, b] [] q) X.env) :: starEach [] X.env := by rfl) :
    PE X (.Call (.Name "tuple" p) [.Call (.Name "range" p2) [a, b] [] q] [] pos) (rdE X.K XC F W (eTupR fa fb)) :=
  PEimp (pe_tupRg hc hg hm (prg_2 hg2 hm2 ha hb na nb hp) ne) fun σ H Q ⟨Acc, ι, ρ, μ, S, E, h⟩ => by
    unfold eTupR at h
    refine rd.bind (.refl S) E h fun v μ1 x H1 _ t1 r1 h1 => ?_
    refine rd.bind t1 (E.mv t1 S) h1 fun w μ2 y H2 _ t2 r2 h2 => ?_
    cases hv : v.see μ1 with
    | none => rw [hv] at h2; exact h2.elim
    | some dv =>
      cases hw : w.see μ2 with
      | none => rw [hv, hw] at h2; cases dv <;> exact h2.elim
      | some dw =>
        rw [hv, hw] at h2
        cases dv <;> try exact h2.elim
        cases dw <;> try exact h2.elim
        rename_i i j
        simp only at h2
        split at h2
        case isFalse => exact h2.elim
        case isTrue hz =>
          refine ⟨i, j, seeI (see_ok t1.sim r1.1 hv), seeI (see_ok t2.sim r2.1 hw), RgOk.of_le (by omega) (by omega) (by omega) (by omega), fun pp hpp => ?_⟩
          have t12 := t1.trans t2
          exact h2 (.ref pp) _ (t12.trans (t2.sim.up hpp _)) ⟨t2.sim.newT hpp (rep_rg (fun n => i + (n : Nat)) _), trivial⟩
theorem ms_clear {K : PySem.W.Frag} : MtSpec K rClear aClear := by
  intro L H a ds args xs vs rd ds' ha r ra h
  cases args with
  | cons d t => cases h
  | nil =>
    cases h
    exact ⟨.non, [], Reps.nil, by simp only [Rep], fun Q q => ⟨a, xs, rfl, ra.invN, ha, q⟩⟩
theorem c_clear (ho : PE X o (rdE X.K XC F W fo)) (hbase : attributeBase o "clear" X.env (eval o X.env) = eval o X.env := by rfl) (hline : (apos.endLine == cpos.line) = true := by rfl) :
    PE X (.Call (.Attribute o "clear" apos) [] [] cpos) (rdE X.K XC F W (eCM aClear fo (evs []))) :=
  PEimp (pe_bm0 PySem.F.plainAttrs_list PySem.F.slot_list_clear PySem.F.type_list_clear mt_clear ho hbase hline) fun σ H Q h => cm_read0 ms_clear h
end
@[simp] theorem x_isiT {Ts : List Ty} {f : SE} {F : Fns} {ρ : Env} {μ : Sto} : eIsiT Ts f F ρ μ = (f F ρ μ).bind fun v μ1 => match v.see μ1 with
  | some d => .ok (.dat (.bl (Ts.any fun T => isi T d))) μ1
  | none => .bad := rfl
@[simp] theorem xs_par4 {i j l m : Nat} {a b c d : SE} {F : Fns} {ρ : Env} {μ : Sto} : sPar4 i j l m a b c d F ρ μ = (a F ρ μ).bind fun v μ1 => (b F ρ (v.bnd μ1).2).bind fun w μ2 => (c F ρ (w.bnd μ2).2).bind fun u μ3 => (d F ρ (u.bnd μ3).2).bind fun z μ4 =>
  .ok (.nx ((((ρ.set i (some (v.bnd μ1).1)).set j (some (w.bnd μ2).1)).set l (some (u.bnd μ3).1)).set m (some (z.bnd μ4).1))) (z.bnd μ4).2 := rfl
@[simp] theorem xs_par3 {i j l : Nat} {a b c : SE} {F : Fns} {ρ : Env} {μ : Sto} : sPar3 i j l a b c F ρ μ = (a F ρ μ).bind fun v μ1 => (b F ρ (v.bnd μ1).2).bind fun w μ2 => (c F ρ (w.bnd μ2).2).bind fun u μ3 =>
  .ok (.nx (((ρ.set i (some (v.bnd μ1).1)).set j (some (w.bnd μ2).1)).set l (some (u.bnd μ3).1))) (u.bnd μ3).2 := rfl
@[simp] theorem x_tupR {a b : SE} {F : Fns} {ρ : Env} {μ : Sto} : eTupR a b F ρ μ = (a F ρ μ).bind fun v μ1 => (b F ρ μ1).bind fun w μ2 => match v.see μ1, w.see μ2 with
  | some (.int i), some (.int j) => if 0 ≤ i ∧ i ≤ 1000000 ∧ 0 ≤ j ∧ j ≤ 1000000 then .ok (.dat (.tup ((List.range (j - i).toNat).map fun n => .int (i + (n : Nat))))) μ2 else .bad
  | _, _ => .bad := rfl
end VM
/-! "A" <= text <= "Z". -/
namespace VM
open PySem L2 PyProof.Rows
def opSLe (a b : D) : Option Bool := match a, b with
  | .str x, .str y => some (!decide (y.cps.toList < x.cps.toList))
  | _, _ => none
section
variable {X : Cx} {XC : Nat → Addr} {F : Fns} {W : WX} {pos : Pos} {a b c : Expr} {fa fb fc : SE}
theorem o2_sle : Cmp2 X.K opSLe (fun x y H Q => ∃ i j, x = .str i ∧ y = .str j ∧ Q (.bl (!decide (j.cps.toList < i.cps.toList))) H) := by
  intro Acc ι μ H a b x y e Q S ra rb h q
  cases a <;> cases b <;> simp only [opSLe, Option.map_none, Option.map_some, reduceCtorEq] at h
  cases h
  rw [seeS ra, seeS rb]
  exact ⟨_, _, rfl, rfl, fin_dat S q rep_bl⟩
theorem w_chainS (ha : PE X a (rdE X.K XC F W fa)) (hb : PE X b (rdE X.K XC F W fb)) (hc : PE X c (rdE X.K XC F W fc)) (hm : lastMarks [.LtE, .LtE] [b, c] = false := by rfl) : PE X (.Compare a [.LtE, .LtE] [b, c] pos) (rdE X.K XC F W (eChain opSLe opSLe fa fb fc)) :=
  c_chain op_le_str o2_sle op_le_str o2_sle ha hb hc hm
theorem wt_chainS (ha : PE X a (rdE X.K XC F W fa)) (hb : PE X b (rdE X.K XC F W fb)) (hc : PE X c (rdE X.K XC F W fc)) (hm : lastMarks [.LtE, .LtE] [b, c] = false := by rfl) : PT X (.Compare a [.LtE, .LtE] [b, c] pos) (rdB X.K XC F W (bChain opSLe opSLe fa fb fc)) :=
  ct_chain op_le_str o2_sle op_le_str o2_sle ha hb hc hm
end
@[simp] theorem x_eChain {f g : D → D → Option Bool} {fa fb fc : SE} {F : Fns} {ρ : Env} {μ : Sto} : eChain f g fa fb fc F ρ μ = (fa F ρ μ).bind fun a μ1 => (fb F ρ μ1).bind fun b μ2 => (lift2B f a b μ2).bind fun k μ3 => match k with
  | true => (fc F ρ μ3).bind fun c μ4 => lift2 (fun x y => (g x y).map fun k => .dat (.bl k)) b c μ4
  | false => .ok (.dat (.bl false)) μ3 := rfl
end VM
/-! Calls that hand in a new list or dict, which the function may change. -/
namespace VM
open PySem L2 PyProof.Rows
def cutE (n : Nat) (r : Res EV) : Res EV := match r with
  | .ok v μ => match v.out n μ with
    | some v' => .ok v' (μ.take n)
    | none => .bad
  | .exc x μ => .exc x (μ.take n)
  | .bad => .bad
def eCallN1 (i : Nat) (fb : SE) : SE := fun F ρ μ => (fb F ρ μ).bind fun w μ2 => cutE μ2.length (F i [(w.bnd μ2).1] (w.bnd μ2).2)
def eCallN (i : Nat) (fa fb : SE) : SE := fun F ρ μ => (fa F ρ μ).bind fun v μ1 => (fb F ρ μ1).bind fun w μ2 => cutE μ2.length (F i [v.arg, (w.bnd μ2).1] (w.bnd μ2).2)
def eCallN3 (i : Nat) (fa fb fc : SE) : SE := fun F ρ μ => (fa F ρ μ).bind fun v μ1 => (fb F ρ μ1).bind fun u μ2 => (fc F ρ μ2).bind fun w μ3 => cutE μ3.length (F i [v.arg, u.arg, (w.bnd μ3).1] (w.bnd μ3).2)
section
variable {K : PySem.W.Frag} {XC : Nat → Addr} {F : Fns} {Acc : Addr → Prop} {ι ι' : List Addr} {μ μ' : Sto} {H H' : Hp}
/-- the end of such a call -/
theorem cut_ok {Q : VK} {r : Res EV} {m : Nat} (S : Sim K Acc μ ι H) (t : Stp K Acc ι μ H ι' μ' H') (hm : m = μ.length) (h : wp (relE K) K XC W0 Acc ι μ H [] (cutE m r) Q) : wp (relE K) K XC W0 Acc ι' μ' H' [] r Q := by
  subst hm
  cases r with
  | bad => exact h
  | exc x μ4 => exact fun c d H4 t4 r => h c d H4 ((t.trans t4).cut S).1 (by
      have r := r.back t
      refine ⟨r.1, ?_⟩
      have r2 := r.2
      cases d with
      | none => exact r2
      | some d => exact ⟨r2.1, let ⟨vs, q1, q2⟩ := r2.2; ⟨vs, q1, Reps.mv ((t.trans t4).cut S).2 _ _ q2⟩⟩)
  | ok v μ4 =>
    intro u H4 t4 r
    simp only [cutE] at h
    cases ev : v.out μ.length μ4 with
    | none => rw [ev] at h; exact h.elim
    | some v' =>
      rw [ev] at h
      exact h u H4 ((t.trans t4).cut S).1 (out_ok S (t.trans t4) (EvR.back t r.1) r.2 ev)
theorem arg_ok {v : EV} {x : V} (S : Sim K Acc μ ι H) (t : Stp K Acc ι μ H ι μ' H') (r : EvR K (Liv Acc μ' ι) ι H H' v x) : SvR K (Liv Acc μ' ι) ι H' v.arg x := by
  have := args_ok (K := K) (Acc := Acc) (μ := μ') (Hb := H) (fun a h => S.trk h) (fun a h => (S.acc a h).2) (es := [v]) (vs := [x]) ⟨x, [], rfl, r, rfl⟩
  obtain ⟨y, r', e, h1, h2⟩ := this
  cases e
  exact h1
end
section
variable {X : Cx} {XC : Nat → Addr} {F : Fns} {n i : Nat} {x : Str} {ps : List Str} {st : Stmt} {p pos : Pos} {a b c : Expr} {fa fb fc : SE}
theorem c_callN1 (G : FnR X.prog X.w X.K X.mg X.base XC F n i x ps st) (hr : Room n X.A) (hG : X.A.guards = some []) (hg : Gl X x) (hb' : PE X b (rdE X.K XC F W0 fb)) (hl : ps.length = 1 := by rfl)
    (hdb : (x == ("__debug__" : Str)) = false := by decide) (he2 : starEach [b] X.env = (false, eval b X.env) :: starEach [] X.env := by rfl) (hpl : (backTo pos (starEach [] X.env)).any (·.1) = false := by rfl) :
    PE X (.Call (.Name x p) [b] [] pos) (rdE X.K XC F W0 (eCallN1 i fb)) := by
  obtain ⟨f, fd, FF, hm, hb, G⟩ := G.ex
  refine PEimp (pe_g (E := E0) G hr hG hg hm FF.kp hb .nil pass0 (pa_cons hb' pa_nil he2) hdb he2 hpl) fun σ H Q ⟨Acc, ι, ρ, μ, S, E, h⟩ => ?_
  refine rd.bind (Stp.refl S) E h fun w μ2 y2 H2 e2 t2 r2 h2 => ?_
  obtain ⟨ι3, t3, s3⟩ := bnd_ok S t2 r2.1 r2.2
  refine ⟨hl.symm, Acc, ι3, (w.bnd μ2).2, [(w.bnd μ2).1], t3.sim, ⟨y2, [], rfl, s3, rfl⟩, ?_⟩
  exact cut_ok S t3 (t2.sim.len.symm.trans S.len) h2
theorem c_callN (G : FnR X.prog X.w X.K X.mg X.base XC F n i x ps st) (hr : Room n X.A) (hG : X.A.guards = some []) (hg : Gl X x) (ha : PE X a (rdE X.K XC F W0 fa)) (hb' : PE X b (rdE X.K XC F W0 fb)) (hl : ps.length = 2 := by rfl)
    (hdb : (x == ("__debug__" : Str)) = false := by decide) (he : starEach [a, b] X.env = (false, eval a X.env) :: starEach [b] X.env := by rfl) (he2 : starEach [b] X.env = (false, eval b X.env) :: starEach [] X.env := by rfl) (hpl : (backTo pos (starEach [b] X.env)).any (·.1) = false := by rfl) :
    PE X (.Call (.Name x p) [a, b] [] pos) (rdE X.K XC F W0 (eCallN i fa fb)) := by
  obtain ⟨f, fd, FF, hm, hb, G⟩ := G.ex
  refine PEimp (pe_g (E := E0) G hr hG hg hm FF.kp hb .nil pass0 (pa_cons ha (pa_cons hb' pa_nil he2) he) hdb he hpl) fun σ H Q ⟨Acc, ι, ρ, μ, S, E, h⟩ => ?_
  refine rd.bind (Stp.refl S) E h fun v μ1 y1 H1 e1 t1 r1 h1 => ?_
  refine rd.bind t1 (E.mv t1 S) h1 fun w μ2 y2 H2 e2 t2 r2 h2 => ?_
  obtain ⟨ι3, t3, s3⟩ := bnd_ok t1.sim t2 r2.1 r2.2
  have s1 := (arg_ok S t1 r1.1).mv t3 t1.sim
  refine ⟨hl.symm, Acc, ι3, (w.bnd μ2).2, [v.arg, (w.bnd μ2).1], t3.sim, ⟨y1, [y2], rfl, s1, y2, [], rfl, s3, rfl⟩, ?_⟩
  exact cut_ok t1.sim t3 (t2.sim.len.symm.trans t1.sim.len) (wp.shift t1 h2)
theorem c_callN3 (G : FnR X.prog X.w X.K X.mg X.base XC F n i x ps st) (hr : Room n X.A) (hG : X.A.guards = some []) (hg : Gl X x) (ha : PE X a (rdE X.K XC F W0 fa)) (hb' : PE X b (rdE X.K XC F W0 fb)) (hc' : PE X c (rdE X.K XC F W0 fc)) (hl : ps.length = 3 := by rfl)
    (hdb : (x == ("__debug__" : Str)) = false := by decide) (he : starEach [a, b, c] X.env = (false, eval a X.env) :: starEach [b, c] X.env := by rfl) (he2 : starEach [b, c] X.env = (false, eval b X.env) :: starEach [c] X.env := by rfl) (he3 : starEach [c] X.env = (false, eval c X.env) :: starEach [] X.env := by rfl) (hpl : (backTo pos (starEach [b, c] X.env)).any (·.1) = false := by rfl) :
    PE X (.Call (.Name x p) [a, b, c] [] pos) (rdE X.K XC F W0 (eCallN3 i fa fb fc)) := by
  obtain ⟨f, fd, FF, hm, hb, G⟩ := G.ex
  refine PEimp (pe_g (E := E0) G hr hG hg hm FF.kp hb .nil pass0 (pa_cons ha (pa_cons hb' (pa_cons hc' pa_nil he3) he2) he) hdb he hpl) fun σ H Q ⟨Acc, ι, ρ, μ, S, E, h⟩ => ?_
  refine rd.bind (Stp.refl S) E h fun v μ1 y1 H1 e1 t1 r1 h1 => ?_
  refine rd.bind t1 (E.mv t1 S) h1 fun u μ2 y2 H2 e2 t2 r2 h2 => ?_
  have t12 := t1.trans t2
  refine rd.bind t12 (E.mv t12 S) h2 fun w μ3 y3 H3 e3 t3 r3 h3 => ?_
  obtain ⟨ι4, t4, s4⟩ := bnd_ok t2.sim t3 r3.1 r3.2
  have s1 := (arg_ok S t1 r1.1).mv (t2.trans t4) t1.sim
  have s2 := (arg_ok t1.sim t2 r2.1).mv t4 t2.sim
  refine ⟨hl.symm, Acc, ι4, (w.bnd μ3).2, [v.arg, u.arg, (w.bnd μ3).1], t4.sim, ⟨y1, _, rfl, s1, y2, _, rfl, s2, y3, [], rfl, s4, rfl⟩, ?_⟩
  exact cut_ok t2.sim t4 (t3.sim.len.symm.trans t2.sim.len) (wp.shift t12 h3)
end
@[simp] theorem x_callN1 {i : Nat} {fb : SE} {F : Fns} {ρ : Env} {μ : Sto} : eCallN1 i fb F ρ μ = (fb F ρ μ).bind fun w μ2 => cutE μ2.length (F i [(w.bnd μ2).1] (w.bnd μ2).2) := rfl
@[simp] theorem x_callN {i : Nat} {fa fb : SE} {F : Fns} {ρ : Env} {μ : Sto} : eCallN i fa fb F ρ μ = (fa F ρ μ).bind fun v μ1 => (fb F ρ μ1).bind fun w μ2 => cutE μ2.length (F i [v.arg, (w.bnd μ2).1] (w.bnd μ2).2) := rfl
@[simp] theorem x_callN3 {i : Nat} {fa fb fc : SE} {F : Fns} {ρ : Env} {μ : Sto} : eCallN3 i fa fb fc F ρ μ = (fa F ρ μ).bind fun v μ1 => (fb F ρ μ1).bind fun u μ2 => (fc F ρ μ2).bind fun w μ3 => cutE μ3.length (F i [v.arg, u.arg, (w.bnd μ3).1] (w.bnd μ3).2) := rfl
@[simp] theorem x_cut_ok {n : Nat} {v : EV} {μ : Sto} : cutE n (.ok v μ) = match v.out n μ with
    | some v' => .ok v' (μ.take n)
    | none => .bad := rfl
end VM
/-! dict(list of pairs), keys unlike. -/
namespace VM
open PySem L2 PyProof.Rows
def prD : List D → Option (List Key × List D)
  | [] => some ([], [])
  | .tup [k, v] :: l => match k.key, prD l with
    | some j, some (ks, vs) => some (j :: ks, v :: vs)
    | _, _ => none
  | _ => none
def fDictP : List D → Option EV
  | [.lst ds] => match prD ds with
    | some (ks, vs) => if ndK ks = true ∧ ks.length ≤ LIM then some (.new (.dic ks vs)) else none
    | none => none
  | _ => none
theorem key_rep2 {K : PySem.W.Frag} {L : Addr → Prop} {H : Hp} {d : D} {k : Key} {v : V} (h : d.key = some k) (r : Rep K L H d v) : v = kV k := by
  refine key_rep (K := K) (L := L) (H := H) h ?_
  cases d <;> simp only [D.key, reduceCtorEq] at h <;> exact r
theorem prD_ok {K : PySem.W.Frag} {L : Addr → Prop} {H : Hp} : ∀ {ds : List D} {xs : List V} {ks : List Key} {vs : List D}, Reps K L H ds xs → prD ds = some (ks, vs) →
    ∃ (ps : List Addr) (ws : List V), xs = ps.map V.ref ∧ Paired (fun p (kv : Key × V) => SqT K H p [kV kv.1, kv.2]) ps (ks.zip ws) ∧ Reps K L H vs ws ∧ ks.length = vs.length
  | [], xs, ks, vs, r, e => by
    cases e
    rw [r.invN]
    exact ⟨[], [], rfl, .nil, Reps.nil, rfl⟩
  | d :: ds, xs, ks, vs, r, e => by
    unfold prD at e
    split at e
    · rename_i h; cases h
    · rename_i k v l h
      cases h
      split at e
      · rename_i j ks' vs' e1 e2
        cases e
        obtain ⟨x, rs, rfl, h1, h2⟩ := r.inv
        obtain ⟨ps, ws, rfl, pp, rw', hl⟩ := prD_ok h2 e2
        simp only [Rep] at h1
        obtain ⟨a, us, rfl, t, r2⟩ := h1
        obtain ⟨u1, r3, rfl, k1, r4⟩ := r2.inv
        obtain ⟨u2, r5, rfl, k2, r6⟩ := r4.inv
        rw [r6.invN] at t
        rw [key_rep2 e1 k1] at t
        exact ⟨a :: ps, u2 :: ws, rfl, .cons t.sq pp, Reps.cons k2 rw', by simp [hl]⟩
      · cases e
    · cases e
theorem mergeK_nd {α : Type} : ∀ (more acc : List (Key × V)), (more.map (·.1)).Nodup → (∀ k ∈ more.map (·.1), k ∉ acc.map (·.1)) → mergeK acc more = acc ++ more
  | [], acc, _, _ => by simp [mergeK]
  | (k, v) :: more, acc, nd, h => by
    simp only [List.map_cons, List.nodup_cons] at nd
    have hk : k ∉ acc.map (·.1) := h k (by simp)
    have e : putK acc k v = acc ++ [(k, v)] := by
      unfold putK
      rw [if_neg]
      intro hc
      obtain ⟨kv, hm, he⟩ := List.any_eq_true.mp hc
      exact hk (List.mem_map.mpr ⟨kv, hm, of_decide_eq_true he⟩)
    have ih := mergeK_nd (α := α) more (acc ++ [(k, v)]) nd.2 fun j hj hm => by
      rw [List.map_append, List.mem_append] at hm
      rcases hm with hm | hm
      · exact h j (by simp [hj]) hm
      · simp at hm
        subst hm
        exact nd.1 hj
    have e2 : mergeK acc ((k, v) :: more) = mergeK (putK acc k v) more := rfl
    rw [e2, e, ih]
    simp
theorem zip_fst {ks : List Key} {ws : List V} (h : ks.length = ws.length) : (ks.zip ws).map (·.1) = ks := by
  rw [List.map_fst_zip (by omega)]
theorem on_dictP {K : PySem.W.Frag} : OpN K fDictP (fun xs H Q => ∃ (a : Addr) (ps : List Addr) (kvs : List (Key × V)), xs = [.ref a] ∧ SqL K H a (ps.map V.ref) ∧ Paired (fun p (kv : Key × V) => SqT K H p [kV kv.1, kv.2]) ps kvs ∧
    ∀ p, H p = none → Q (.ref p) (upd H p (.dK (mergeK [] kvs)))) := by
  intro Acc ι μ H ds xs e Q S r h q
  unfold fDictP at h
  split at h
  · rename_i dl
    obtain ⟨x, rfl, a, vs, rfl, t, r⟩ := sees1 r
    split at h
    · rename_i ks vd e1
      split at h
      case isFalse => cases h
      case isTrue hz =>
        cases h
        obtain ⟨ps, ws, rfl, pp, rr, hl⟩ := prD_ok r e1
        have hlw : ks.length = ws.length := by rw [hl, ← rr.len]
        have nd := ndK_ok hz.1
        refine ⟨a, ps, ks.zip ws, rfl, SqL.of t, pp, fun p np => ?_⟩
        have mk : mergeK [] (ks.zip ws) = ks.zip ws := by
          have := mergeK_nd (α := Unit) (ks.zip ws) [] (by rw [zip_fst hlw]; exact nd) (by simp)
          simpa using this
        rw [mk]
        exact q (.ref p) _ (S.up np _) ⟨⟨p, rfl, np, ws, .inl upd_same, hl, Reps.mv ((S.up np _).mv S) _ _ rr⟩, S.ownD np hl rr⟩
    · cases h
  · cases h
end VM
/-! sorted(set(a tuple)); dicts whose keys are tuples: {}, get, copies. -/
namespace VM
open PySem PySem.Spec L2 PyProof.Rows
section
variable {P : Program} {w : World} {K : Type} [DecidableEq K] {D : SKd P w K} {A : Around} {E : Value → Shared → Prop} {s : Shared}
set_option maxRecDepth 100000 in
set_option maxHeartbeats 3200000 in
theorem SKd.makeT {l : Addr} {items : Array Value} (ks : List K) {Q : Value → Shared → Prop} (hh : A.handled = none) (hl : s.heap.IsTuple l items) (hit : ∀ (i : Nat) (v : Value), items[i]? = some v → ∃ k, ks[i]? = some k ∧ D.knd.is k v = true) (hz : items.size = ks.length) (hb : ks.length + 1 < scanBound)
    (h : ∀ (h' : Heap) (tk : Nat), D.At h' s.heap.objs.size (fun j => j ∈ ks) ks.length → (∀ b o, s.heap.get? b = some o → h'.get? b = some o) → Q (.ref s.heap.objs.size) { s with heap := h', toks := tk }) :
    wpAny (model P w) A (call (.type "set") [.ref l]) Q E s := by
  obtain ⟨c, tl, hmro⟩ := F.called_set.mro
  have made := F.called_set.made
  have sub := F.called_set.sub
  refine wpAny_call (codeAny_of_tree ?_)
  show wpAny _ _ (callAny (.type "set") _) _ _ _
  refine wpAny_pure ⟨Code.quiet_builtin _ (by decide +kernel), codeAny_builtin F.entry_type_call ?_⟩
  rw [Around.under_plain (weight_type_call_type "set" [.ref l] []) rfl]
  have h1 := F.called_set.notType
  have h2 := F.called_set.canCreate
  have hct := F.typeCall_set_1 (.ref l)
  repeat (any_goals (first | assumption | wp_step))
  generalize eN : ({ cls := .type "set", dict := none, data := .set #[] 0 (.fresh 0 0 (!w.params.followText "set-order")) } : Obj) = N
  have cN : N.cls = .type "set" := by rw [← eN]
  refine codeAny_mono (code_set_led1 (.ref l) (E := E) (Q₁ := fun obj z => obj = .ref s.heap.objs.size ∧ z = { s with heap := s.heap.push N }) (by rw [eN]; exact ⟨rfl, rfl⟩)) fun r z hr => ?_
  cases r with
  | error e => exact hr
  | ok fl =>
    cases fl with
    | ret obj =>
      obtain ⟨rfl, rfl⟩ := hr
      have hS : (s.heap.push N).get? s.heap.objs.size = some N := Heap.get?_push_size _ (by rw [← eN] <;> rfl)
      have hT : Shared.TypeIs { s with heap := s.heap.push N } (.ref s.heap.objs.size) "set" := ⟨_, hS, cN⟩
      have hli := F.called_set.init.lookup
      have hbi := F.called_set.init.bind (.ref s.heap.objs.size)
      repeat (any_goals (first | assumption | wp_step))
      refine codeAny_mono (codeAny_call_builtin (R := wants (fun r z => r = .none ∧ ∃ h' tk, z = { s with heap := h', toks := tk } ∧ D.At h' s.heap.objs.size (fun j => j ∈ ks) ks.length ∧
          ∀ b o, s.heap.get? b = some o → h'.get? b = some o) E) F.called_set.init.plain F.entry_set_init (check_set_init_1 hT ?_)) fun r₂ z₂ hr₂ => ?_
      · obtain ⟨ol, hol, hcl, nl, hdl⟩ := hl
        have hol' : (s.heap.push N).get? l = some ol := Heap.get?_push_of_some _ hol
        obtain ⟨ocls, odict, odata, oslots⟩ := ol
        simp only at hcl hdl
        subst hcl
        subst hdl
        have hsls := F.sub_tuple_set
        have hslf := F.sub_tuple_frozenset
        have hne : (Value.type "tuple" == Value.type "dict") = false := by decide
        have hlS : l < s.heap.objs.size := Heap.lt_size hol
        have hh3 : A.in1.in1.in1.handled = none := by simp [hh]
        have z1 : ∀ N : Obj, (s.heap.push N).objs.size = s.heap.objs.size + 1 := fun _ => Heap.size_push ..
        have nI : ∀ N : Obj, l ≠ (s.heap.push N).objs.size := fun N => by rw [z1]; exact Nat.ne_of_lt (Nat.lt_succ_of_lt hlS)
        have nS : ∀ N : Obj, s.heap.objs.size ∉ [(s.heap.push N).objs.size, l] := fun N => by
          rw [z1]
          simp only [List.mem_cons, List.not_mem_nil, or_false, not_or]
          exact ⟨Nat.ne_of_lt (Nat.lt_succ_self _), Nat.ne_of_gt hlS⟩
        have hl1 : (s.heap.push N).IsTuple l items := ⟨_, hol', rfl, nl, rfl⟩
        subst eN
        unfold Builtin.«set.__init__» noKeywords Builtin.Frozenset.updateFrom
        generalize hPI : pyIter = PI
        wp_walk
        subst hPI
        refine wpAny_pyIter_tuple hl1 ?_
        refine wpAny_bind (wpAny_runValue ?_)
        refine SKd.loop (D := D) ((Walks.tuple hh3 _ l (nI _) items).toS) s.heap.objs.size (nS _) ks hz hb hit (items.size - 0) 0 _ (by omega) (Nat.zero_le _) ⟨⟨_, Heap.get?_push_size _ rfl, rfl, rfl⟩, (hl1.push _)⟩ ?hS0 ?hR
        case hS0 =>
          exact SKd.fresh (Heap.get?_push_of_some _ hS)
        case hR =>
          intro s' hm hS'
          obtain ⟨h', g2, d', tk', os'⟩ := s'
          have eg : g2 = s.gens := hm.gens
          have ed : d' = s.drawn := hm.drawn
          have eo : os' = s.os := hm.os
          subst eg
          subst ed
          subst eo
          show wpAny _ _ _ _ _ _
          refine wpAny_pure ?_
          show wpAny _ _ (ret Value.none) _ _ _
          rw [hz] at hS'
          refine wpAny_pure ⟨rfl, h', tk', rfl, hS', fun b o e => ?_⟩
          have b0 : b < s.heap.objs.size := Heap.lt_size e
          refine hm.heap b o ?_ (Heap.get?_push_of_some _ (Heap.get?_push_of_some _ e))
          simp only [List.mem_cons, List.not_mem_nil, or_false, not_or]
          exact ⟨Nat.ne_of_lt b0, by rw [z1]; exact Nat.ne_of_lt (Nat.lt_succ_of_lt b0)⟩
      · cases r₂ with
        | error e => exact hr₂
        | ok fl₂ =>
          cases fl₂ with
          | ret r =>
            obtain ⟨rfl, h', tk, rfl, hS', hk'⟩ := hr₂
            repeat (any_goals (first | assumption | wp_step))
            exact h _ _ hS' hk'
          | _ => exact hr₂.elim
    | _ => exact hr.elim

end
/-! sorted(set(a tuple)) -/
def rST (K : PySem.W.Frag) : List V → Hp → VK → Prop := fun vs H Q => ∃ a, vs = [V.ref a] ∧ ∃ ks : List Int, SqT K H a (ks.map V.int) ∧ ks.length < 4000 ∧ ∀ p, H p = none → Q (.ref p) (upd H p (.lst ((sortU ltI ks).map V.int)))
section
variable {X : Cx} {pins : List (Addr × Obj)} {σ : L2.St} {H : Hp} {s : Shared} {K : Type} [DecidableEq K]
theorem sset_goT (D : SKd X.prog X.w K) {a : Addr} {ks : List K} {Q : VK} {pos : Pos} (hc : X.calm = true) (I : Inv X pins σ H s) (hq : SqT X.K H a (ks.map D.toV)) (hl : ks.length < 4000)
    (q : ∀ p, H p = none → Q (.ref p) (upd H p (.lst ((sortU D.lt ks).map D.toV)))) :
    wpAny (model X.prog X.w) X.A (call (.type "set") [.ref a]) (fun v z => wpAny (model X.prog X.w) X.A (spliced (backTo pos (starEach [] X.env))) (fun vs z' => wpAny (model X.prog X.w) X.A (call (.builtin "sorted") (v :: vs)) (EP X pins σ Q) X.xe z') X.xe z) X.xe s := by
  obtain ⟨its, r, pl, hz⟩ := I.tuple hq
  refine SKd.makeT (D := D) ks (I.ok.hd hc) (show s.heap.IsTuple a its.toArray from pl) (fun i v h => keys_at D r i v (by simpa using h)) (by rw [List.size_toArray, ← r.length, List.length_map]) (by unfold scanBound; omega) fun h' tk hS hk => ?_
  refine PyProof.Rows.args_nil ?_
  have I2 : Inv X pins σ H { s with heap := h', toks := tk } := I.kept hk
  refine SKd.srtd hS (I2.ok.hd hc) fun s' p out c k g o hp hg hv hs hm => ?_
  have e : out.toList.map D.bk = sortU D.lt ks := SKd.uniq (D := D) hs SKd.sort_up fun j => (hm j).trans (SKd.mem_sort (D := D)).symm
  have rv := vals_keys D hv
  rw [e] at rv
  have hlen : ((sortU D.lt ks).map D.toV).length ≤ sizeLine := by
    have := len_sort (lt := D.lt) (l := ks)
    rw [List.length_map, sizeLine_eq]; omega
  have hn : H p = none := I2.hok.fresh hp
  have J : Inv X pins σ (upd H p (.lst ((sortU D.lt ks).map D.toV))) s' := I2.call' (ch := []) o (Un.laid k hp hn) (I2.hok.laid k hp ⟨hlen, out.toList, c, rv, hg⟩) (by rw [g]; exact I2.bare) (fun _ z => nomatch z)
  exact ⟨.ref p, _, J, rfl, q p hn⟩
theorem pe_ssetT {e : Expr} {ta : TA} {p p2 q pos : Pos} (hc : X.calm = true) (hg : Gl X "sorted") (hm : X.mg "sorted" = none) (hg2 : Gl X "set") (hm2 : X.mg "set" = none) (ha : PA X [e] ta)
    (na : starEach [e] X.env = (false, eval e X.env) :: starEach [] X.env := by rfl) : PE X (.Call (.Name "sorted" p) [.Call (.Name "set" p2) [e] [] q] [] pos) (tCB (rST X.K) ta) := by
  refine ⟨fun pins s σ H Q I h => ?_⟩
  refine Call_ (ld_blt I hg hm boot_sorted ?_)
  refine PyProof.Rows.callWith_builtin1 (PyProof.Rows.args_cons ?_ rfl) rfl rfl
  refine Call_ (ld_blt I hg2 hm2 boot_set ?_)
  refine PyProof.Rows.callWith_type1 (thn (ha.run q pins s σ H _ I h) fun us s1 ⟨vs, H1, I1, r1, q1⟩ => ?_) na rfl
  obtain ⟨a, rfl, ks, hq, hl, q1⟩ := q1
  rw [Vals.ref1 r1]
  exact sset_goT (kInt X.prog X.w) hc I1 hq hl q1
end
def fSsetT : List D → Option EV
  | [.tup ds] => if ds.length < 4000 then (intsD ds).map fun ns => .new (.lst ((sortU ltI ns).map .int)) else none
  | _ => none
theorem on_ssetT {K : PySem.W.Frag} : OpN K fSsetT (rST K) := by
  intro Acc ι μ H ds xs e Q S r h q
  cases ds with
  | nil => cases h
  | cons d t =>
    cases t with
    | cons _ _ => cases d <;> cases h
    | nil =>
      obtain ⟨v, rs, rfl, h1, h2⟩ := r
      have h2 : rs = [] := h2
      subst h2
      cases d <;> try (cases h; done)
      rename_i ds
      obtain ⟨a, vs, rfl, tp, rp⟩ := seeT h1
      simp only [fSsetT] at h
      split at h
      case isFalse => cases h
      case isTrue hz =>
        have fi : ∀ (k : Int) v, Rep K (Liv Acc μ ι) H (.int k) v → v = V.int k := fun k v r => by simpa only [Rep] using r
        cases hT : intsD ds with
        | none => rw [hT] at h; cases h
        | some ns =>
          rw [hT] at h
          cases h
          have ed := intsD_eq hT
          subst ed
          have ev := reps_flat fi rp
          subst ev
          refine ⟨a, rfl, ns, tp.sq, by simpa using hz, fun p np => ?_⟩
          have rr : Reps K (Liv Acc μ ι) H ((sortU ltI ns).map D.int) ((sortU ltI ns).map V.int) := flat_reps (fun k => by simp only [Rep]) _
          exact q (.ref p) _ (S.up np _) ⟨⟨p, rfl, np, S.newL np rr⟩, S.ownN np rr⟩
section
variable {X : Cx} {XC : Nat → Addr} {F : Fns} {W : WX} {e : Expr} {fs : SA} {p p2 q pos : Pos}
theorem w_ssetT (hm : X.mg "sorted" = none) (hm2 : X.mg "set" = none) (ha : PA X [e] (rdA X.K XC F W fs)) (hc : X.calm = true := by rfl) (hg : Gl X "sorted" := by rfl) (hg2 : Gl X "set" := by rfl)
    (na : starEach [e] X.env = (false, eval e X.env) :: starEach [] X.env := by rfl) : PE X (.Call (.Name "sorted" p) [.Call (.Name "set" p2) [e] [] q] [] pos) (rdE X.K XC F W (eCb fSsetT fs)) :=
  PEimp (pe_ssetT hc hg hm hg2 hm2 ha na) fun _ _ _ h => callN_ok on_ssetT h
end
/-! ### dicts whose keys are tuples -/
def eDictT0 : SE := fun _ _ μ => .ok (.new (.dct [] [])) μ
theorem c_dictT0 {X : Cx} {XC : Nat → Addr} {F : Fns} {W : WX} {pos : Pos} : PE X (.Dict [] [] pos) (rdE X.K XC F W eDictT0) := PEimp pe_dnewT fun σ H Q ⟨Acc, ι, ρ, μ, S, E, h⟩ p hp =>
  h (.ref p) _ (S.up hp _) ⟨⟨p, rfl, hp, [], upd_same, rfl, Reps.nil⟩, S.ownDT (ks := []) (ds := []) (vs := []) hp rfl Reps.nil⟩
def eGet2T (o k x : SE) : SE := fun F ρ μ => (o F ρ μ).bind fun v μ1 => match v.see μ1 with
  | some (.dct _ _) => (k F ρ μ1).bind fun w μ2 => (x F ρ μ2).bind fun u μ3 => match v.see μ3, w.see μ3 with
    | some (.dct ks ds), some kd => match kd.tkey with
      | some j => match tget ks ds j with
        | some d => .ok (.dat d) μ3
        | none => .ok u μ3
      | none => .bad
    | _, _ => .bad
  | _ => .bad
section
variable {X : Cx} {XC : Nat → Addr} {F : Fns} {W : WX} {o e f : Expr} {fo fe ff : SE} {apos cpos pos : Pos}
theorem c_get2T (hu : X.A.units + 1 < cLine) (ho : PE X o (rdE X.K XC F W fo)) (he : PE X e (rdE X.K XC F W fe)) (hf : PE X f (rdE X.K XC F W ff)) (m : M2 X o "get" apos e f cpos) : PE X (.Call (.Attribute o "get" apos) [e, f] [] cpos) (rdE X.K XC F W (eGet2T fo fe ff)) :=
  PEimp (pe_dget2 hu ho he hf m) fun σ H Q ⟨Acc, ι, ρ, μ, S, E, h⟩ => by
    refine rd.bind (Stp.refl S) E h fun v μ1 x H1 _ t1 r1 h1 => ?_
    cases hs1 : v.see μ1 with
    | none => rw [hs1] at h1; exact h1.elim
    | some d1 =>
      rw [hs1] at h1
      cases d1 <;> try exact h1.elim
      simp only at h1
      obtain ⟨a, vs1, rfl, ha1, _, _⟩ := see_ok t1.sim r1.1 hs1
      refine ⟨a, rfl, .inr ⟨_, .inl ha1⟩, ?_⟩
      refine rd.bind t1 (E.mv t1 S) h1 fun w μ2 y H2 _ t2 r2 h2 => ?_
      have t12 := t1.trans t2
      refine rd.bind t12 (E.mv t12 S) h2 fun u μ3 z H3 _ t3 r3 h3 => ?_
      have t23 := t2.trans t3
      have r1' := EvR.move t1 S t23 r1.1
      have r2' := EvR.move t2 t1.sim t3 r2.1
      cases hs3 : v.see μ3 with
      | none => rw [hs3] at h3; exact h3.elim
      | some d3 =>
        rw [hs3] at h3
        cases d3 <;> try exact h3.elim
        rename_i ks ds
        cases hw : w.see μ3 with
        | none => rw [hw] at h3; exact h3.elim
        | some kd =>
          rw [hw] at h3
          simp only at h3
          cases hk : kd.tkey with
          | none => rw [hk] at h3; exact h3.elim
          | some j =>
            rw [hk] at h3
            simp only at h3
            obtain ⟨a3, vs, e3, ha, hl, rp⟩ := see_ok t3.sim r1' hs3
            cases e3
            obtain ⟨b, ey, eb⟩ := tkey_rep hk (see_ok t3.sim r2' hw)
            subst ey
            refine ⟨_, (.inr ⟨_, _, b, .inl ha, rfl, eb, rfl⟩), ?_⟩
            have hg := val_getT (k := j) hl rp
            cases hd : tget ks ds j with
            | some d =>
              rw [hd] at h3 hg
              obtain ⟨vv, e1, rv⟩ := hg
              rw [e1]
              exact h3 vv H3 (t12.trans t3) ⟨rv, trivial⟩
            | none =>
              rw [hd] at h3 hg
              have hg : valV (ks.zip vs) j = none := hg
              rw [hg]
              exact h3 z H3 (t12.trans t3) ⟨EvR.back t12 r3.1, r3.2⟩
end
/-! dict(d) -/
def hashI (is : List Int) : Int := reduceHash (Builtin.Tuple.tupleHashOf (is.map PySem.hashInt))
def keyInts : List Key → Option (List Int)
  | [] => some []
  | .inl i :: r => (keyInts r).map (i :: ·)
  | .inr _ :: _ => none
def keysInts : List (List Key) → Option (List (List Int))
  | [] => some []
  | k :: r => match keyInts k, keysInts r with
    | some i, some is => some (i :: is)
    | _, _ => none
def apart (l : List Int) : Bool := match l with
  | [] => true
  | a :: r => !(r.any fun b => a == b) && apart r
theorem apart_ok : ∀ {l : List Int}, apart l = true → l.Nodup
  | [], _ => List.nodup_nil
  | a :: r, h => by
    simp only [apart, Bool.and_eq_true, Bool.not_eq_true', List.any_eq_false, beq_iff_eq] at h
    exact List.nodup_cons.mpr ⟨fun hm => h.1 a hm rfl, apart_ok h.2⟩
theorem keyInts_eq : ∀ {k : List Key} {i : List Int}, keyInts k = some i → k = i.map Sum.inl
  | [], i, h => by cases h; rfl
  | .inl j :: r, i, h => by
    simp only [keyInts] at h
    cases e : keyInts r with
    | none => rw [e] at h; cases h
    | some m => rw [e] at h; cases h; rw [keyInts_eq e]; rfl
  | .inr _ :: _, i, h => by cases h
theorem keysInts_eq : ∀ {k : List (List Key)} {i : List (List Int)}, keysInts k = some i → k = i.map (·.map Sum.inl)
  | [], i, h => by cases h; rfl
  | a :: r, i, h => by
    simp only [keysInts] at h
    cases e : keyInts a with
    | none => rw [e] at h; cases h
    | some m =>
      cases e2 : keysInts r with
      | none => rw [e, e2] at h; cases h
      | some ms => rw [e, e2] at h; cases h; rw [keyInts_eq e, keysInts_eq e2]; rfl
def fDictT : List D → Option EV
  | [.dct ks ds] => match keysInts ks with
    | some is => if apart (is.map hashI) = true ∧ ks.length ≤ LIM then some (.new (.dct ks ds)) else none
    | none => none
  | _ => none
theorem hash_ints (P : Program) (w : World) (is : List Int) : (tupleKind (mixKind P w)).hash (is.map Sum.inl) = hashI is := by
  show reduceHash (Builtin.Tuple.tupleHashOf ((is.map Sum.inl).map (mixKind P w).hash)) = _
  rw [List.map_map]
  rfl
theorem kt_keys {H : Hp} : ∀ {kvs : List (List Key × V)} {xs : List (List Key × Addr × Value)}, KT H kvs xs → xs.map (·.1) = kvs.map (·.1)
  | _, _, .nil => rfl
  | _, _, .cons h t => by rw [List.map_cons, List.map_cons, kt_keys t, h.1]
theorem kt_tup {P : Program} {w : World} {H : Hp} {s : Shared} (ok : HOk P w H s.heap) : ∀ {kvs : List (List Key × V)} {xs : List (List Key × Addr × Value)}, KT H kvs xs → ∀ x ∈ xs, s.TypeIs (.ref x.2.1) "tuple"
  | _, _, .nil, x, hx => nomatch hx
  | _, _, .cons h t, x, hx => by
    rcases List.mem_cons.mp hx with rfl | hx
    · obtain ⟨o, its, n, h1, h2, h3, _⟩ := key_of ok h.2.1
      exact ⟨o, h1, h2⟩
    · exact kt_tup ok t x hx
section
variable {X : Cx}
theorem call_dictT (hu : X.A.units + 65 < cLine) : CallR X (.type "dict") (fun xs H Q => ∃ (a : Addr) (is : List (List Int)) (vs : List V), xs = [.ref a] ∧ H a = some (.dT ((is.map (·.map Sum.inl)).zip vs)) ∧ (is.map hashI).Nodup ∧ vs.length = is.length ∧ ∀ p, H p = none → Q (.ref p) (upd H p (.dT ((is.map (·.map Sum.inl)).zip vs)))) := by
  intro pins s σ H xs us Q I r q
  obtain ⟨a, is, vs, ex, hd, hn, hl, q⟩ := q
  subst ex
  obtain ⟨u, eu, rx⟩ := vals1 r
  subst eu
  cases rx
  obtain ⟨z, lo, xs, rel, dd⟩ := dt_of I.hok hd
  have ek : xs.map (·.1) = is.map (·.map Sum.inl) := by
    rw [kt_keys rel, List.map_fst_zip]
    rw [List.length_map]; omega
  have hh : (xs.map fun x => (tupleKind (mixKind X.prog X.w)).hash x.1).Nodup := by
    have e1 : (xs.map fun x => (tupleKind (mixKind X.prog X.w)).hash x.1) = (xs.map (·.1)).map (tupleKind (mixKind X.prog X.w)).hash := by rw [List.map_map]; rfl
    rw [e1, ek, List.map_map]
    have e2 : ((tupleKind (mixKind X.prog X.w)).hash ∘ fun i : List Int => i.map Sum.inl) = hashI := by
      funext i
      exact hash_ints X.prog X.w i
    rw [e2]; exact hn
  have ht := kt_tup (s := s) I.hok rel
  have zx : xs.length ≤ sizeLine := by rw [← Paired.length rel]; exact z
  have nd : (xs.map (·.1)).Nodup := dd.nodup
  have hm : (s.heap.objs.size == sysModules) = false := beq_eq_false_iff_ne.mpr (Nat.ne_of_gt I.big)
  refine callType_codes (Q₁ := fun obj s₁ => obj = .ref s.heap.objs.size ∧ s₁ = { s with heap := s.heap.push { cls := .type "dict", data := .dict #[] } }) F.kt_called_dict (F.kt_typeCall_dict_1 _) F.entry_dict_init (kt_code_dict_new _ ⟨rfl, rfl⟩) ?_
  rintro obj s₁ ⟨rfl, rfl⟩
  have hnew : (s.heap.push { cls := .type "dict", data := .dict #[] }).DictOfH (tupleKind (mixKind X.prog X.w)) s.heap.objs.size [] := Heap.DictOfH.new s.heap
  have kp : ∀ b u, s.heap.get? b = some u → (s.heap.push { cls := .type "dict", data := .dict #[] }).get? b = some u := fun b u e => Heap.get?_push_of_some _ e
  have dd' : (s.heap.push { cls := .type "dict", data := .dict #[] }).DictOfH (tupleKind (mixKind X.prog X.w)) a xs := by
    obtain ⟨o, es, ep, h1, h2, h3, h4, h5, h6⟩ := dd
    refine ⟨o, es, ep, kp _ _ h1, h2, h3, h4, fun x hx => ?_, h6⟩
    obtain ⟨o', its, n, g1, g2, g3, g4⟩ := h5 x hx
    exact ⟨o', its, n, kp _ _ g1, g2, g3, g4⟩
  have hdo : s.heap.objs.size ≠ a := by
    obtain ⟨_, _, _, hg, _⟩ := dd
    exact fun e => absurd (Heap.lt_size hg) (by rw [e]; exact Nat.lt_irrefl _)
  refine ⟨hnew.typeIs, F.args_dict_init_2 _ _, ?_⟩
  unfold Builtin.«dict.__init__»
  refine wpAny_bind ?_
  unfold Builtin.Dict.selfAndRest
  refine wpAny_bind (wpAny_notOrdered_dict hnew.typeIs ?_)
  show wpAny _ _ (pure (s.heap.objs.size, [Value.ref a])) _ _ _
  refine wpAny_pure ?_
  show wpAny _ _ (Builtin.Dict.updateFrom "dict.__init__" s.heap.objs.size (.ref a) [] .none) _ _ _
  unfold Builtin.Dict.updateFrom
  refine wpAny_bind (wpAny_typeOf dd'.typeIs ?_)
  rw [if_neg (by decide)]
  refine wpAny_bind ?_
  unfold Builtin.Dict.merge
  refine wpAny_bind ?_
  unfold Builtin.Dict.readDirectly
  refine wpAny_bind (wpAny_isInstance dd'.typeIs isSubtype_dict_dict ?_)
  simp only [Bool.not_true, Bool.false_eq_true, if_false]
  refine wpAny_bind (wpAny_specialOf dd'.typeIs F.slot_dict_iter.lookup (wpAny_pure ?_))
  simp only [beq_self_eq_true, if_true]
  refine wpAny_bind (wpAny_pure ?_)
  have hu2 : X.A.in1.units + 1 < cLine := by
    have : X.A.in1.units = X.A.units + 1 := rfl
    omega
  refine wpAny_mergeDict_heap (hsz := by simpa using zx) (tupleKind_room_in1 hu2) hdo lo hnew dd' (.inr ⟨fun x hx => ?_, hh⟩) fun h' hd' _ hs' => ?_
  · obtain ⟨o, h1, h2⟩ := ht x hx
    exact ⟨o, kp _ _ h1, h2⟩
  show wpAny _ _ (Builtin.Dict.addKeywords s.heap.objs.size [] >>= _) _ _ _
  rw [storedAllH_nil_of_nodup xs nd] at hd'
  refine wpAny_bind (wpAny_pure (wpAny_pure ⟨rfl, ?_⟩))
  have keep : ∀ b u, s.heap.get? b = some u → h'.get? b = some u := fun b u e => (hs'.2 b (Nat.ne_of_lt (Heap.lt_size e))).trans (kp b u e)
  obtain ⟨o, es, ep, h1, h2, h3, h4, h5, h6⟩ := hd'
  refine ⟨.ref s.heap.objs.size, upd H s.heap.objs.size (.dT ((is.map (·.map Sum.inl)).zip vs)), I.laid (t' := s.toks) keep (Nat.le_refl _) ?_, rfl, q _ (I.hok.fresh (Nat.le_refl _))⟩
  refine ⟨z, hm, xs, rel.keeps fun b ys e => ?_, o, es, ep, h1, h2, h3, h4, h6⟩
  rw [upd_ne (ne_of_none e (I.hok.fresh (Nat.le_refl _)))]
  exact e
end
theorem on_dictT {K : PySem.W.Frag} : OpN K fDictT (fun xs H Q => ∃ (a : Addr) (is : List (List Int)) (vs : List V), xs = [.ref a] ∧ H a = some (.dT ((is.map (·.map Sum.inl)).zip vs)) ∧ (is.map hashI).Nodup ∧ vs.length = is.length ∧ ∀ p, H p = none → Q (.ref p) (upd H p (.dT ((is.map (·.map Sum.inl)).zip vs)))) := by
  intro Acc ι μ H ds xs e Q S r h q
  cases ds with
  | nil => cases h
  | cons d t =>
    cases t with
    | cons _ _ => cases d <;> cases h
    | nil =>
      obtain ⟨v, rs, rfl, h1, h2⟩ := r
      have h2 : rs = [] := h2
      subst h2
      cases d <;> try (cases h; done)
      rename_i ks ds
      simp only [fDictT] at h
      cases hk : keysInts ks with
      | none => rw [hk] at h; cases h
      | some is =>
        rw [hk] at h
        simp only at h
        split at h
        case isFalse => cases h
        case isTrue hz =>
          cases h
          have ek := keysInts_eq hk
          subst ek
          obtain ⟨a, vs, rfl, tp, hl, rp⟩ := h1
          have hvl : vs.length = is.length := by rw [rp.len, ← hl, List.length_map]
          exact ⟨a, is, vs, rfl, tp, apart_ok hz.1, hvl, fun p np => q (.ref p) _ (S.up np _) ⟨⟨p, rfl, np, vs, upd_same, hl, Reps.mv ((S.up np _).mv S) _ _ rp⟩, S.ownDT np hl rp⟩⟩
@[simp] theorem toD_dct {ks : List (List L2.Key)} {ds : List D} : (CV.dct ks ds).toD = .dct ks ds := rfl
@[simp] theorem x_dictT0 {F : Fns} {ρ : Env} {μ : Sto} : eDictT0 F ρ μ = .ok (.new (.dct [] [])) μ := rfl
@[simp] theorem x_get2T {o k x : SE} {F : Fns} {ρ : Env} {μ : Sto} : eGet2T o k x F ρ μ = (o F ρ μ).bind fun v μ1 => match v.see μ1 with
  | some (.dct _ _) => (k F ρ μ1).bind fun w μ2 => (x F ρ μ2).bind fun u μ3 => match v.see μ3, w.see μ3 with
    | some (.dct ks ds), some kd => match kd.tkey with
      | some j => match tget ks ds j with
        | some d => .ok (.dat d) μ3
        | none => .ok u μ3
      | none => .bad
    | _, _ => .bad
  | _ => .bad := rfl
end VM
set_option maxHeartbeats 0
namespace Law
open PySem L2 VM PyProof.Rows
def top (i : Nat) : Stmt := PySem.Challenge.pw_nearestpattern_k51_any_value_as_tree.main.body.getD i (.Pass ⟨0, 0, 0, 0⟩)
abbrev S_is_integer : Stmt := top 4
abbrev S_is_count : Stmt := top 5
abbrev S_is_name : Stmt := top 17
abbrev S_is_variable : Stmt := top 18
abbrev S_is_head : Stmt := top 19
abbrev S_is_rest : Stmt := top 20
abbrev S_is_applied : Stmt := top 21
abbrev S_standings : Stmt := top 22
abbrev S_have_one_sort : Stmt := top 23
abbrev S_pieces : Stmt := top 24
abbrev S_numbers_of : Stmt := top 25
abbrev S_names_of : Stmt := top 26
abbrev S_is_term : Stmt := top 27
abbrev S_is_pattern : Stmt := top 28
abbrev S_is_leaf : Stmt := top 36
abbrev S_is_shape : Stmt := top 37
abbrev S_is_known_path : Stmt := top 38
abbrev S_is_test : Stmt := top 39
abbrev S_known_behind : Stmt := top 40
abbrev S_is_tree_of : Stmt := top 41
abbrev S_want_tree_count : Stmt := top 42
abbrev S_is_tree : Stmt := top 43
abbrev S__law_pot : Stmt := top 45
abbrev S__law_draw : Stmt := top 46
abbrev S__law_pick : Stmt := top 47
abbrev S__law_is_count : Stmt := top 48
abbrev S__law_is_name : Stmt := top 49
abbrev S__law_is_shape : Stmt := top 50
abbrev S__law_is_known : Stmt := top 51
abbrev S__law_is_leaf : Stmt := top 52
abbrev S__law_is_tree : Stmt := top 53
abbrev S__law_paths : Stmt := top 54
abbrev S__law_tree : Stmt := top 55
abbrev S__law_long : Stmt := top 56
abbrev S__law_bent_leaf : Stmt := top 57
abbrev S__law_bent_test : Stmt := top 58
abbrev S__law_bent : Stmt := top 59
abbrev S__law_is_so : Stmt := top 60
abbrev S__law_right : Stmt := top 61
abbrev S_law : Stmt := top 62
abbrev N_is_integer : List Str := ["value"]
abbrev N_is_count : List Str := ["value"]
abbrev N_is_name : List Str := ["value", "sign"]
abbrev N_is_variable : List Str := ["value", "sign"]
abbrev N_is_head : List Str := ["value"]
abbrev N_is_rest : List Str := ["value"]
abbrev N_is_applied : List Str := ["value"]
abbrev N_standings : List Str := ["value", "found", "waiting", "here", "is_last", "last", "at"]
abbrev N_have_one_sort : List Str := ["found", "sorts", "sort", "variable"]
abbrev N_pieces : List Str := ["term", "found", "waiting", "here", "level", "arg"]
abbrev N_numbers_of : List Str := ["term", "piece", "level"]
abbrev N_names_of : List Str := ["term", "piece", "level"]
abbrev N_is_term : List Str := ["value", "found"]
abbrev N_is_pattern : List Str := ["value", "are_told", "number", "name"]
abbrev N_is_leaf : List Str := ["value", "at", "near", "far"]
abbrev N_is_shape : List Str := ["value"]
abbrev N_is_known_path : List Str := ["value", "many", "known", "at"]
abbrev N_is_test : List Str := ["value", "many", "known"]
abbrev N_known_behind : List Str := ["test", "known", "found"]
abbrev N_is_tree_of : List Str := ["many", "value", "waiting", "here", "known"]
abbrev N_want_tree_count : List Str := ["value"]
abbrev N_is_tree : List Str := ["many", "value"]
abbrev N__law_pot : List Str := ["script", "k", "cell", "some"]
abbrev N__law_draw : List Str := ["pot", "sides", "digit"]
abbrev N__law_pick : List Str := ["pot", "some"]
abbrev N__law_is_count : List Str := ["value"]
abbrev N__law_is_name : List Str := ["value", "small", "figures", "sign"]
abbrev N__law_is_shape : List Str := ["value"]
abbrev N__law_is_known : List Str := ["value", "known", "one", "path", "many"]
abbrev N__law_is_leaf : List Str := ["value", "one"]
abbrev N__law_is_tree : List Str := ["value", "known", "more"]
abbrev N__law_paths : List Str := ["known", "found", "path", "many", "at"]
abbrev N__law_tree : List Str := ["pot", "deep", "known", "paths", "path", "more", "test", "shape"]
abbrev N__law_long : List Str := ["pot", "many", "found", "turn", "leaf", "path", "test"]
abbrev N__law_bent_leaf : List Str := ["pot", "leaf", "way"]
abbrev N__law_bent_test : List Str := ["pot", "test", "way", "some"]
abbrev N__law_bent : List Str := ["pot", "tree", "way"]
abbrev N__law_is_so : List Str := ["many", "value"]
abbrev N__law_right : List Str := ["pot", "many", "tree", "turn", "bent", "less", "odd"]
abbrev N_law : List Str := ["script"]
def P_is_integer : SS := sRet (eAnd (eIsi .int (eV 0)) (eNot (eIsi .bool (eV 0))))
def P_is_count : SS := sRet (eAnd (eCall 0 (evs [eV 0])) (eCmp (opCmp .GtE) (eV 0) (eC (.int 0))))
def P_is_name : SS := sSeq (sIf (bOr (bNot (bTru (eIsi .str (eV 0)))) (bOr (bNot (bChain (opCmp .LtE) (opCmp .LtE) (eC (.int 1)) (eCb bLen (evs [eV 0])) (eC (.int 8)))) (bCmp (opCmp .NotIn) (eIx (eV 0) (eC (.int 0))) (eC (.str "abcdefghijklmnopqrstuvwxyz"))))) (sRet (eC (.bl false))) (sPass)) (sRet (eCb bAll (evs [eLc (iOf (eV 0)) (.nm 1) (bYes) (eOr (eCmp (opCmp .In) (eV 1) (eC (.str "abcdefghijklmnopqrstuvwxyz"))) (eCmp (opCmp .In) (eV 1) (eC (.str "0123456789")))) [1]])))
def P_is_variable : SS := sSeq (sIf (bOr (bNot (bTru (eIsi .str (eV 0)))) (bOr (bNot (bChain (opCmp .LtE) (opCmp .LtE) (eC (.int 1)) (eCb bLen (evs [eV 0])) (eBin .Add (eC (.int 2)) (eC (.int 1))))) (bCmp (opCmp .NotIn) (eIx (eV 0) (eC (.int 0))) (eC (.str "ABCDEFGHIJKLMNOPQRSTUVWXYZ"))))) (sRet (eC (.bl false))) (sPass)) (sRet (eCb bAll (evs [eLc (iOf (eSl (eV 0) (oSome (eC (.int 1))) (oNone))) (.nm 1) (bYes) (eCmp (opCmp .In) (eV 1) (eC (.str "0123456789"))) [1]])))
def P_is_head : SS := sRet (eOr (eCall 2 (evs [eV 0])) (eCall 3 (evs [eV 0])))
def P_is_rest : SS := sRet (eAnd (eIsi .str (eV 0)) (eAnd (eCmp (opCmp .Eq) (eSl (eV 0) (oNone) (oSome (eC (.int 1)))) (eC (.str "*"))) (eCall 3 (evs [eSl (eV 0) (oSome (eC (.int 1))) (oNone)]))))
def P_is_applied : SS := sRet (eAnd (eIsi .tuple (eV 0)) (eCmp (opCmp .Eq) (eCb bLen (evs [eV 0])) (eC (.int 2))))
def P_standings : SS := sSeq (sPar 1 2 (eLst (evs [])) (eLst (evs [eTup (evs [eV 0, eC (.bl false)])]))) (sSeq (sWhile (bCmp (opCmp .NotEq) (eV 2) (eLst (evs []))) (sSeq (sAsg (eCM aPop (eV 2) (evs [])) (gTp [gNm 3, gNm 4])) (sIf (bTru (eCall 3 (evs [eV 3]))) (sDrop (eCM aAppend (eV 1) (evs [eTup (evs [eC (.str "term"), eV 3])]))) (sIf (bAnd (bTru (eV 4)) (bTru (eCall 5 (evs [eV 3])))) (sDrop (eCM aAppend (eV 1) (evs [eTup (evs [eC (.str "rest"), eSl (eV 3) (oSome (eC (.int 1))) (oNone)])]))) (sIf (bAnd (bTru (eCall 6 (evs [eV 3]))) (bAnd (bTru (eCall 4 (evs [eIx (eV 3) (eC (.int 0))]))) (bTru (eIsi .tuple (eIx (eV 3) (eC (.int 1))))))) (sSeq (sIf (bTru (eCall 3 (evs [eIx (eV 3) (eC (.int 0))]))) (sDrop (eCM aAppend (eV 1) (evs [eTup (evs [eC (.str "head"), eIx (eV 3) (eC (.int 0))])]))) (sPass)) (sSeq (sSet 5 (eBin .Sub (eCb bLen (evs [eIx (eV 3) (eC (.int 1))])) (eC (.int 1)))) (sDrop (eCM aExtend (eV 2) (evs [eLc (iRange (evs [eV 5, eNeg (eC (.int 1)), eNeg (eC (.int 1))])) (.nm 6) (bYes) (eTup (evs [eIx (eIx (eV 3) (eC (.int 1))) (eV 6), eCmp (opCmp .Eq) (eV 6) (eV 5)])) [6]]))))) (sIf (bNot (bTru (eCall 0 (evs [eV 3])))) (sRet (eC .non)) (sPass))))))) (sRet (eV 1)))
def P_have_one_sort : SS := sSeq (sSet 1 (eDict0)) (sRet (eCb bAll (evs [eLc (iOf (eV 0)) (.tup [.nm 2, .nm 3]) (bYes) (eCmp (opCmp .Eq) (eSetd (eV 1) (eV 3) (eV 2)) (eV 2)) [2, 3]])))
def P_pieces : SS := sSeq (sPar 1 2 (eLst (evs [])) (eLst (evs [eTup (evs [eV 0, eC (.int 1)])]))) (sSeq (sWhile (bCmp (opCmp .NotEq) (eV 2) (eLst (evs []))) (sSeq (sAsg (eCM aPop (eV 2) (evs [])) (gTp [gNm 3, gNm 4])) (sSeq (sDrop (eCM aAppend (eV 1) (evs [eTup (evs [eV 3, eV 4])]))) (sIf (bTru (eCall 6 (evs [eV 3]))) (sDrop (eCM aExtend (eV 2) (evs [eLc (iOf (eRev (eIx (eV 3) (eC (.int 1))))) (.nm 5) (bYes) (eTup (evs [eV 5, eBin .Add (eV 4) (eC (.int 1))])) [5]]))) (sPass))))) (sRet (eV 1)))
def P_numbers_of : SS := sRet (eCb fSset (evs [eLc (iOf (eCall 9 (evs [eV 0]))) (.tup [.nm 1, .nm 2]) (bTru (eCall 0 (evs [eV 1]))) (eV 1) [1, 2]]))
def P_names_of : SS := sRet (eCb fSset (evs [eLc (iOf (eCall 9 (evs [eV 0]))) (.tup [.nm 1, .nm 2]) (bAnd (bTru (eCall 6 (evs [eV 1]))) (bTru (eCall 2 (evs [eIx (eV 1) (eC (.int 0))])))) (eIx (eV 1) (eC (.int 0))) [1, 2]]))
def P_is_term : SS := sSeq (sSet 1 (eCall 7 (evs [eV 0]))) (sRet (eAnd (eCmp (opCmp .IsNot) (eV 1) (eC .non)) (eCall 8 (evs [eV 1]))))
def P_is_pattern : SS := sSeq (sIf (bNot (bTru (eCall 12 (evs [eV 0])))) (sRet (eC (.bl false))) (sPass)) (sSeq (sSet 1 (eCb bAll (evs [eLc (iOf (eCall 10 (evs [eV 0]))) (.nm 2) (bYes) (eCmp (opCmp .LtE) (eCb bAbs (evs [eV 2])) (eC (.int 999))) [2]]))) (sRet (eAnd (eV 1) (eNot (eCb bAny (evs [eLc (iOf (eCall 11 (evs [eV 0]))) (.nm 3) (bYes) (eCmp (opCmp .Eq) (eSl (eV 3) (oNone) (oSome (eC (.int 2)))) (eC (.str "zz"))) [3]]))))))
def P_is_leaf : SS := sSeq (sIf (bOr (bNot (bTru (eIsi .tuple (eV 0)))) (bOr (bCmp (opCmp .NotEq) (eCb bLen (evs [eV 0])) (eC (.int 2))) (bOr (bNot (bTru (eIsi .str (eIx (eV 0) (eC (.int 0)))))) (bCmp (opCmp .NotEq) (eIx (eV 0) (eC (.int 0))) (eC (.str "nearest")))))) (sRet (eC (.bl false))) (sPass)) (sSeq (sIf (bOr (bNot (bTru (eIsi .tuple (eIx (eV 0) (eC (.int 1)))))) (bNot (bTru (eCb bAll (evs [eLc (iOf (eIx (eV 0) (eC (.int 1)))) (.nm 1) (bYes) (eAnd (eCall 1 (evs [eV 1])) (eCmp (opCmp .Lt) (eV 1) (eC (.int 40)))) [1]]))))) (sRet (eC (.bl false))) (sPass)) (sRet (eCb bAll (evs [eLc (iZip (evs [eIx (eV 0) (eC (.int 1)), eSl (eIx (eV 0) (eC (.int 1))) (oSome (eC (.int 1))) (oNone)])) (.tup [.nm 2, .nm 3]) (bYes) (eCmp (opCmp .Lt) (eV 2) (eV 3)) [2, 3]]))))
def P_is_shape : SS := sSeq (sIf (bTru (eCall 0 (evs [eV 0]))) (sRet (eCmp (opCmp .LtE) (eCb bAbs (evs [eV 0])) (eC (.int 999)))) (sPass)) (sSeq (sIf (bOr (bNot (bTru (eIsi .tuple (eV 0)))) (bOr (bCmp (opCmp .NotEq) (eCb bLen (evs [eV 0])) (eC (.int 2))) (bOr (bNot (bTru (eCall 2 (evs [eIx (eV 0) (eC (.int 0))])))) (bNot (bTru (eCall 13 (evs [eTup (evs [eIx (eV 0) (eC (.int 0)), eTup (evs [])])]))))))) (sRet (eC (.bl false))) (sPass)) (sRet (eAnd (eCall 1 (evs [eIx (eV 0) (eC (.int 1))])) (eCmp (opCmp .LtE) (eIx (eV 0) (eC (.int 1))) (eC (.int 8))))))
def P_is_known_path : SS := sSeq (sIf (bOr (bNot (bTru (eIsi .tuple (eV 0)))) (bOr (bCmp (opCmp .Eq) (eV 0) (eTup (evs []))) (bNot (bTru (eCb bAll (evs [eLc (iOf (eV 0)) (.nm 3) (bYes) (eCall 1 (evs [eV 3])) [3]])))))) (sRet (eC (.bl false))) (sPass)) (sRet (eCmp (opCmp .Lt) (eIx (eV 0) (eNeg (eC (.int 1)))) (eIf (bCmp (opCmp .Eq) (eCb bLen (evs [eV 0])) (eC (.int 1))) (eV 1) (eGet2T (eV 2) (eSl (eV 0) (oNone) (oSome (eNeg (eC (.int 1))))) (eC (.int 0))))))
def P_is_test : SS := sSeq (sIf (bOr (bNot (bTru (eIsi .tuple (eV 0)))) (bOr (bCmp (opCmp .NotEq) (eCb bLen (evs [eV 0])) (eC (.int 5))) (bNot (bTru (eIsi .str (eIx (eV 0) (eC (.int 0)))))))) (sRet (eC (.bl false))) (sPass)) (sSeq (sIf (bOr (bCmp (opCmp .NotIn) (eIx (eV 0) (eC (.int 0))) (eTup (evs [eC (.str "is"), eC (.str "same")]))) (bNot (bTru (eCall 16 (evs [eIx (eV 0) (eC (.int 1)), eV 1, eV 2]))))) (sRet (eC (.bl false))) (sPass)) (sRet (eIf (bCmp (opCmp .Eq) (eIx (eV 0) (eC (.int 0))) (eC (.str "is"))) (eCall 15 (evs [eIx (eV 0) (eC (.int 2))])) (eCall 16 (evs [eIx (eV 0) (eC (.int 2)), eV 1, eV 2])))))
def P_known_behind : SS := sSeq (sIf (bOr (bCmp (opCmp .Eq) (eIx (eV 0) (eC (.int 0))) (eC (.str "same"))) (bTru (eCall 0 (evs [eIx (eV 0) (eC (.int 2))])))) (sRet (eV 1)) (sPass)) (sSeq (sSet 2 (eCb fDictT (evs [eV 1]))) (sSeq (sAsg (eCb bMax (evs [eIx (eIx (eV 0) (eC (.int 2))) (eC (.int 1)), eGet2T (eV 1) (eIx (eV 0) (eC (.int 1))) (eC (.int 0))])) (gSb (eV 2) (eIx (eV 0) (eC (.int 1))))) (sRet (eV 2))))
def P_is_tree_of : SS := sSeq (sSet 2 (eLst (evs [eTup (evs [eV 1, eDictT0])]))) (sSeq (sWhile (bCmp (opCmp .NotEq) (eV 2) (eLst (evs []))) (sSeq (sAsg (eCM aPop (eV 2) (evs [])) (gTp [gNm 3, gNm 4])) (sIf (bNot (bTru (eCall 14 (evs [eV 3])))) (sSeq (sIf (bNot (bTru (eCall 17 (evs [eV 3, eV 0, eV 4])))) (sRet (eC (.bl false))) (sPass)) (sDrop (eCM aExtend (eV 2) (evs [eLst (evs [eTup (evs [eIx (eV 3) (eC (.int 4)), eV 4]), eTup (evs [eIx (eV 3) (eC (.int 3)), eCall 18 (evs [eV 3, eV 4])])])])))) (sPass)))) (sRet (eC (.bl true))))
def P_want_tree_count : SS := sSeq (sIf (bOr (bNot (bTru (eCall 1 (evs [eV 0])))) (bCmp (opCmp .Gt) (eV 0) (eC (.int 8)))) (sNever) (sPass)) (sRet (eV 0))
def P_is_tree : SS := sRet (eCall 19 (evs [eCall 20 (evs [eV 0]), eV 1]))
def P__law_pot : SS := sSeq (sSet 2 (eIf (bCmp (opCmp .Lt) (eV 1) (eCb bLen (evs [eV 0]))) (eCb bAbs (evs [eIx (eV 0) (eV 1)])) (eBin .Add (eBin .Add (eBin .Mult (eC (.int 313)) (eV 1)) (eC (.int 227))) (eBin .Mod (eCb bAbs (evs [eCb bSum (evs [eSl (eV 0) (oNone) (oSome (eC (.int 1)))])])) (eC (.int 1000003)))))) (sSeq (sSet 3 (eBin .Add (eBin .Mod (eCb bInt (evs [eBin .Add (eBin .Add (eBin .Mult (eBin .Mod (eCb bInt (evs [eV 2])) (eC (.int 2147483549))) (eC (.int 40499))) (eBin .Mult (eC (.int 8627)) (eV 1))) (eC (.int 157))])) (eC (.int 2147483563))) (eC (.int 1)))) (sRet (eLst (evs [eCb bMax (evs [eC (.int 0), eBin .Sub (eV 2) (eBin .Pow (eC (.int 10)) (eC (.int 18)))]), eV 3]))))
def P__law_draw : SS := sSeq (sIf (bCmp (opCmp .Gt) (eIx (eV 0) (eC (.int 0))) (eC (.int 0))) (sSeq (sAsg (eCb bDivmod (evs [eIx (eV 0) (eC (.int 0)), eV 1])) (gTp [gSb (eV 0) (eC (.int 0)), gNm 2])) (sRet (eV 2))) (sPass)) (sSeq (sAsg (eBin .Mod (eCb bInt (evs [eBin .Add (eBin .Mult (eIx (eV 0) (eC (.int 1))) (eC (.int 40739))) (eC (.int 8627))])) (eC (.int 2147483587))) (gSb (eV 0) (eC (.int 1)))) (sRet (eBin .Mod (eCb bInt (evs [eBin .FloorDiv (eBin .Mod (eCb bInt (evs [eBin .Mult (eIx (eV 0) (eC (.int 1))) (eIx (eV 0) (eC (.int 1)))])) (eC (.int 2147483629))) (eC (.int 23))])) (eV 1))))
def P__law_pick : SS := sRet (eIx (eV 1) (eCall 23 (evs [eV 0, eCb bLen (evs [eV 1])])))
def P__law_is_count : SS := sRet (eAnd (eIsi .int (eV 0)) (eAnd (eNot (eIsi .bool (eV 0))) (eCmp (opCmp .GtE) (eV 0) (eC (.int 0)))))
def P__law_is_name : SS := sSeq (sAsg (eTup (evs [eC (.str "abcdefghijklmnopqrstuvwxyz"), eC (.str "0123456789")])) (gTp [gNm 1, gNm 2])) (sSeq (sIf (bOr (bNot (bTru (eIsi .str (eV 0)))) (bOr (bNot (bChain (opCmp .LtE) (opCmp .LtE) (eC (.int 1)) (eCb bLen (evs [eV 0])) (eC (.int 8)))) (bOr (bCmp (opCmp .NotIn) (eIx (eV 0) (eC (.int 0))) (eV 1)) (bCmp (opCmp .Eq) (eSl (eV 0) (oNone) (oSome (eC (.int 2)))) (eC (.str "zz")))))) (sRet (eC (.bl false))) (sPass)) (sRet (eCb bAll (evs [eLc (iOf (eV 0)) (.nm 3) (bYes) (eCmp (opCmp .In) (eV 3) (eBin .Add (eV 1) (eV 2))) [3]]))))
def P__law_is_shape : SS := sSeq (sIf (bTru (eIsi .tuple (eV 0))) (sRet (eAnd (eCmp (opCmp .Eq) (eCb bLen (evs [eV 0])) (eC (.int 2))) (eAnd (eCall 26 (evs [eIx (eV 0) (eC (.int 0))])) (eAnd (eCall 25 (evs [eIx (eV 0) (eC (.int 1))])) (eCmp (opCmp .LtE) (eIx (eV 0) (eC (.int 1))) (eC (.int 8))))))) (sPass)) (sRet (eAnd (eIsi .int (eV 0)) (eAnd (eNot (eIsi .bool (eV 0))) (eChain (opCmp .LtE) (opCmp .LtE) (eNeg (eC (.int 999))) (eV 0) (eC (.int 999))))))
def P__law_is_known : SS := sSeq (sIf (bOr (bNot (bTru (eIsi .tuple (eV 0)))) (bOr (bCmp (opCmp .Eq) (eV 0) (eTup (evs []))) (bNot (bTru (eCb bAll (evs [eLc (iOf (eV 0)) (.nm 2) (bYes) (eCall 25 (evs [eV 2])) [2]])))))) (sRet (eC (.bl false))) (sPass)) (sRet (eCb bAny (evs [eLc (iOf (eV 1)) (.tup [.nm 3, .nm 4]) (bYes) (eAnd (eCmp (opCmp .Eq) (eV 3) (eSl (eV 0) (oNone) (oSome (eNeg (eC (.int 1)))))) (eCmp (opCmp .Lt) (eIx (eV 0) (eNeg (eC (.int 1)))) (eV 4))) [3, 4]])))
def P__law_is_leaf : SS := sSeq (sIf (bOr (bCmp (opCmp .NotEq) (eCb bLen (evs [eV 0])) (eC (.int 2))) (bNot (bTru (eIsi .tuple (eIx (eV 0) (eC (.int 1))))))) (sRet (eC (.bl false))) (sPass)) (sSeq (sIf (bNot (bTru (eCb bAll (evs [eLc (iOf (eIx (eV 0) (eC (.int 1)))) (.nm 1) (bYes) (eAnd (eCall 25 (evs [eV 1])) (eCmp (opCmp .Lt) (eV 1) (eC (.int 40)))) [1]])))) (sRet (eC (.bl false))) (sPass)) (sRet (eCmp (opCmp .Eq) (eCb bList (evs [eIx (eV 0) (eC (.int 1))])) (eCb fSsetT (evs [eIx (eV 0) (eC (.int 1))])))))
def P__law_is_tree : SS := sSeq (sIf (bOr (bNot (bTru (eIsi .tuple (eV 0)))) (bOr (bCmp (opCmp .Eq) (eV 0) (eTup (evs []))) (bNot (bTru (eIsi .str (eIx (eV 0) (eC (.int 0)))))))) (sRet (eC (.bl false))) (sPass)) (sSeq (sIf (bCmp (opCmp .Eq) (eIx (eV 0) (eC (.int 0))) (eC (.str "nearest"))) (sRet (eCall 29 (evs [eV 0]))) (sPass)) (sSeq (sIf (bOr (bCmp (opCmp .NotIn) (eIx (eV 0) (eC (.int 0))) (eTup (evs [eC (.str "is"), eC (.str "same")]))) (bOr (bCmp (opCmp .NotEq) (eCb bLen (evs [eV 0])) (eC (.int 5))) (bNot (bTru (eCall 28 (evs [eIx (eV 0) (eC (.int 1)), eV 1])))))) (sRet (eC (.bl false))) (sPass)) (sSeq (sSet 2 (eV 1)) (sSeq (sIf (bCmp (opCmp .Eq) (eIx (eV 0) (eC (.int 0))) (eC (.str "same"))) (sIf (bNot (bTru (eCall 28 (evs [eIx (eV 0) (eC (.int 2)), eV 1])))) (sRet (eC (.bl false))) (sPass)) (sSeq (sIf (bNot (bTru (eCall 27 (evs [eIx (eV 0) (eC (.int 2))])))) (sRet (eC (.bl false))) (sPass)) (sIf (bTru (eIsi .tuple (eIx (eV 0) (eC (.int 2))))) (sSet 2 (eBin .Add (eV 1) (eLst (evs [eTup (evs [eIx (eV 0) (eC (.int 1)), eIx (eIx (eV 0) (eC (.int 2))) (eC (.int 1))])])))) (sPass)))) (sRet (eAnd (eCall 30 (evs [eIx (eV 0) (eC (.int 3)), eV 2])) (eCall 30 (evs [eIx (eV 0) (eC (.int 4)), eV 1]))))))))
def P__law_paths : SS := sSeq (sSet 1 (eLst (evs []))) (sSeq (sFor (iOf (eV 0)) (gTp [gNm 2, gNm 3]) (sDrop (eCM aExtend (eV 1) (evs [eLc (iRange (evs [eV 3])) (.nm 4) (bYes) (eBin .Add (eV 2) (eTup (evs [eV 4]))) [4]])))) (sRet (eV 1)))
def P__law_tree : SS := sSeq (sSet 3 (eCall 31 (evs [eV 2]))) (sSeq (sIf (bOr (bCmp (opCmp .Eq) (eV 1) (eC (.int 0))) (bOr (bCmp (opCmp .Eq) (eV 3) (eLst (evs []))) (bCmp (opCmp .Eq) (eCall 23 (evs [eV 0, eC (.int 5)])) (eC (.int 0))))) (sRet (eTup (evs [eC (.str "nearest"), eCall 24 (evs [eV 0, eLst (evs [eTup (evs []), eTup (evs [eC (.int 0)]), eTup (evs [eC (.int 1)]), eTup (evs [eC (.int 0), eC (.int 2)]), eTup (evs [eC (.int 3), eC (.int 39)])])])]))) (sPass)) (sSeq (sPar 4 5 (eCall 24 (evs [eV 0, eV 3])) (eV 2)) (sSeq (sIf (bCmp (opCmp .Eq) (eCall 23 (evs [eV 0, eC (.int 3)])) (eC (.int 0))) (sSet 6 (eTup (evs [eC (.str "same"), eV 4, eCall 24 (evs [eV 0, eV 3])]))) (sSeq (sSet 7 (eCall 24 (evs [eV 0, eLst (evs [eC (.int 0), eNeg (eC (.int 999)), eC (.int 7), eTup (evs [eC (.str "a"), eC (.int 0)]), eTup (evs [eC (.str "g"), eC (.int 1)]), eTup (evs [eC (.str "p"), eC (.int 2)]), eTup (evs [eC (.str "p"), eC (.int 2)])])]))) (sSeq (sSet 6 (eTup (evs [eC (.str "is"), eV 4, eV 7]))) (sIf (bTru (eIsi .tuple (eV 7))) (sSet 5 (eBin .Add (eV 2) (eLst (evs [eTup (evs [eV 4, eIx (eV 7) (eC (.int 1))])])))) (sPass))))) (sRet (eBin .Add (eV 6) (eTup (evs [eCall 32 (evs [eV 0, eBin .Sub (eV 1) (eC (.int 1)), eV 5]), eCall 32 (evs [eV 0, eBin .Sub (eV 1) (eC (.int 1)), eV 2])])))))))
def P__law_long : SS := sSeq (sSet 2 (eTup (evs [eC (.str "nearest"), eTup (evs [eCall 23 (evs [eV 0, eC (.int 40)])])]))) (sSeq (sFor (iRange (evs [eBin .Add (eC (.int 12)) (eCall 23 (evs [eV 0, eC (.int 18)]))])) (gNm 3) (sSeq (sPar 4 5 (eTup (evs [eC (.str "nearest"), eCall 24 (evs [eV 0, eLst (evs [eTup (evs []), eTup (evs [eC (.int 5)]), eTup (evs [eC (.int 38), eC (.int 39)])])])])) (eTup (evs [eCall 23 (evs [eV 0, eV 1])]))) (sSeq (sSet 6 (eTup (evs [eC (.str "is"), eV 5, eCall 24 (evs [eV 0, eLst (evs [eC (.int 999), eC (.int 0), eTup (evs [eC (.str "a"), eC (.int 0)]), eTup (evs [eC (.str "name1234"), eC (.int 8)])])])]))) (sSeq (sIf (bCmp (opCmp .Eq) (eCall 23 (evs [eV 0, eC (.int 4)])) (eC (.int 0))) (sSet 6 (eTup (evs [eC (.str "same"), eV 5, eTup (evs [eCall 23 (evs [eV 0, eV 1])])]))) (sPass)) (sSet 2 (eBin .Add (eV 6) (eIf (bCmp (opCmp .Eq) (eCall 23 (evs [eV 0, eC (.int 2)])) (eC (.int 0))) (eTup (evs [eV 4, eV 2])) (eTup (evs [eV 2, eV 4]))))))))) (sRet (eV 2)))
def P__law_bent_leaf : SS := sSeq (sSet 2 (eCall 23 (evs [eV 0, eC (.int 9)]))) (sSeq (sIf (bCmp (opCmp .Eq) (eV 2) (eC (.int 0))) (sRet (eTup (evs [eC (.str "nearest"), eCb bList (evs [eIx (eV 1) (eC (.int 1))])]))) (sPass)) (sSeq (sIf (bCmp (opCmp .Eq) (eV 2) (eC (.int 1))) (sRet (eTup (evs [eC (.str "nearest"), eBin .Add (eIx (eV 1) (eC (.int 1))) (eTup (evs [eC (.int 40)]))]))) (sPass)) (sSeq (sIf (bCmp (opCmp .Eq) (eV 2) (eC (.int 2))) (sRet (eTup (evs [eC (.str "nearest"), eBin .Add (eIx (eV 1) (eC (.int 1))) (eIx (eV 1) (eC (.int 1)))]))) (sPass)) (sSeq (sIf (bCmp (opCmp .Eq) (eV 2) (eC (.int 3))) (sRet (eTup (evs [eC (.str "nearest"), eRev (eIx (eV 1) (eC (.int 1)))]))) (sPass)) (sSeq (sIf (bCmp (opCmp .Eq) (eV 2) (eC (.int 4))) (sRet (eTup (evs [eC (.str "nearest"), eTup (evs [eC (.bl true)])]))) (sPass)) (sSeq (sIf (bCmp (opCmp .Eq) (eV 2) (eC (.int 5))) (sRet (eTup (evs [eC (.str "nearest"), eBin .Add (eTup (evs [eNeg (eC (.int 1))])) (eIx (eV 1) (eC (.int 1)))]))) (sPass)) (sSeq (sIf (bCmp (opCmp .Eq) (eV 2) (eC (.int 6))) (sRet (eBin .Add (eV 1) (eSl (eV 1) (oSome (eC (.int 1))) (oNone)))) (sPass)) (sSeq (sIf (bCmp (opCmp .Eq) (eV 2) (eC (.int 7))) (sRet (eCb bList (evs [eV 1]))) (sPass)) (sRet (eCall 24 (evs [eV 0, eLst (evs [eC .non, eC (.int 0), eTup (evs []), eTup (evs [eC (.str "nearest")]), eC (.str "nearest"), eTup (evs [eC (.str "farthest"), eTup (evs [])]), eTup (evs [eC (.str "nearest"), eC .non])])])))))))))))
def P__law_bent_test : SS := sSeq (sSet 2 (eCall 23 (evs [eV 0, eC (.int 12)]))) (sSeq (sIf (bCmp (opCmp .Eq) (eV 2) (eC (.int 0))) (sRet (eBin .Add (eBin .Add (eSl (eV 1) (oNone) (oSome (eC (.int 1)))) (eTup (evs [eBin .Add (eIx (eV 1) (eC (.int 1))) (eTup (evs [eC (.int 0)]))]))) (eSl (eV 1) (oSome (eC (.int 2))) (oNone)))) (sPass)) (sSeq (sIf (bCmp (opCmp .Eq) (eV 2) (eC (.int 1))) (sRet (eBin .Add (eBin .Add (eSl (eV 1) (oNone) (oSome (eC (.int 1)))) (eTup (evs [eCb bList (evs [eIx (eV 1) (eC (.int 1))])]))) (eSl (eV 1) (oSome (eC (.int 2))) (oNone)))) (sPass)) (sSeq (sIf (bCmp (opCmp .Eq) (eV 2) (eC (.int 2))) (sRet (eBin .Add (eBin .Add (eSl (eV 1) (oNone) (oSome (eC (.int 1)))) (eTup (evs [eSl (eIx (eV 1) (eC (.int 1))) (oNone) (oSome (eNeg (eC (.int 1))))]))) (eSl (eV 1) (oSome (eC (.int 2))) (oNone)))) (sPass)) (sSeq (sIf (bCmp (opCmp .Eq) (eV 2) (eC (.int 3))) (sRet (eBin .Add (eBin .Add (eSl (eV 1) (oNone) (oSome (eC (.int 1)))) (eTup (evs [eBin .Add (eTup (evs [eC (.bl true)])) (eSl (eIx (eV 1) (eC (.int 1))) (oSome (eC (.int 1))) (oNone))]))) (eSl (eV 1) (oSome (eC (.int 2))) (oNone)))) (sPass)) (sSeq (sIf (bCmp (opCmp .Eq) (eV 2) (eC (.int 4))) (sRet (eBin .Add (eBin .Add (eSl (eV 1) (oNone) (oSome (eC (.int 1)))) (eTup (evs [eBin .Add (eSl (eIx (eV 1) (eC (.int 1))) (oNone) (oSome (eNeg (eC (.int 1))))) (eTup (evs [eBin .Add (eIx (eIx (eV 1) (eC (.int 1))) (eNeg (eC (.int 1)))) (eC (.int 1))]))]))) (eSl (eV 1) (oSome (eC (.int 2))) (oNone)))) (sPass)) (sSeq (sIf (bCmp (opCmp .Eq) (eV 2) (eC (.int 5))) (sRet (eBin .Add (eTup (evs [eIf (bCmp (opCmp .Eq) (eIx (eV 1) (eC (.int 0))) (eC (.str "is"))) (eC (.str "same")) (eC (.str "is"))])) (eSl (eV 1) (oSome (eC (.int 1))) (oNone)))) (sPass)) (sSeq (sIf (bCmp (opCmp .Eq) (eV 2) (eC (.int 6))) (sRet (eBin .Add (eSl (eV 1) (oNone) (oSome (eC (.int 3)))) (eTup (evs [eIx (eV 1) (eC (.int 4)), eIx (eV 1) (eC (.int 3))])))) (sPass)) (sSeq (sIf (bCmp (opCmp .Eq) (eV 2) (eC (.int 7))) (sRet (eSl (eV 1) (oNone) (oSome (eC (.int 4))))) (sPass)) (sSeq (sIf (bCmp (opCmp .Eq) (eV 2) (eC (.int 8))) (sRet (eCb bList (evs [eV 1]))) (sPass)) (sSeq (sIf (bCmp (opCmp .Eq) (eV 2) (eC (.int 9))) (sRet (eBin .Add (eV 1) (eTup (evs [eC .non])))) (sPass)) (sSeq (sIf (bCmp (opCmp .Eq) (eV 2) (eC (.int 10))) (sRet (eIf (bCmp (opCmp .Eq) (eCall 23 (evs [eV 0, eC (.int 2)])) (eC (.int 0))) (eCall 24 (evs [eV 0, eLst (evs [eC (.str "as"), eC .non, eC (.int 0), eC (.bl true)])])) (eBin .Add (eTup (evs [eC .non])) (eSl (eV 1) (oSome (eC (.int 1))) (oNone))))) (sPass)) (sSeq (sSet 3 (eLst (evs [eC (.int 1000), eNeg (eC (.int 1000)), eC (.bl true), eC .non, eC (.str "a"), eTup (evs [eC (.str "a"), eC (.int 9)]), eTup (evs [eC (.str "zz1"), eC (.int 0)]), eTup (evs [eC (.str "A"), eC (.int 0)]), eTup (evs [eC (.str "a"), eC (.bl true)]), eLst (evs [eC (.str "a"), eC (.int 0)]), eTup (evs [eC (.str "a")]), eTup (evs [eC (.int 0)])]))) (sRet (eBin .Add (eBin .Add (eSl (eV 1) (oNone) (oSome (eC (.int 2)))) (eTup (evs [eCall 24 (evs [eV 0, eV 3])]))) (eSl (eV 1) (oSome (eC (.int 3))) (oNone))))))))))))))))
def P__law_bent : SS := sSeq (sIf (bCmp (opCmp .Eq) (eIx (eV 1) (eC (.int 0))) (eC (.str "nearest"))) (sRet (eCall 34 (evs [eV 0, eV 1]))) (sPass)) (sSeq (sSet 2 (eCall 23 (evs [eV 0, eC (.int 3)]))) (sSeq (sIf (bCmp (opCmp .Eq) (eV 2) (eC (.int 0))) (sRet (eCall 35 (evs [eV 0, eV 1]))) (sPass)) (sSeq (sIf (bCmp (opCmp .Eq) (eV 2) (eC (.int 1))) (sRet (eBin .Add (eSl (eV 1) (oNone) (oSome (eC (.int 3)))) (eTup (evs [eCall 36 (evs [eV 0, eIx (eV 1) (eC (.int 3))]), eIx (eV 1) (eC (.int 4))])))) (sPass)) (sRet (eBin .Add (eSl (eV 1) (oNone) (oSome (eC (.int 4)))) (eTup (evs [eCall 36 (evs [eV 0, eIx (eV 1) (eC (.int 4))])])))))))
def P__law_is_so : SS := sRet (eCall 30 (evs [eV 1, eLst (evs [eTup (evs [eTup (evs []), eV 0])])]))
def P__law_right : SS := sSeq (sSet 1 (eCall 24 (evs [eV 0, eLst (evs [eC (.int 0), eC (.int 1), eC (.int 2), eC (.int 3), eC (.int 0), eC (.int 1), eC (.int 2), eC (.int 3), eC (.int 6), eC (.int 8)])]))) (sSeq (sSet 2 (eCall 32 (evs [eV 0, eIf (bCmp (opCmp .Gt) (eCall 23 (evs [eV 0, eC (.int 4)])) (eC (.int 0))) (eC (.int 3)) (eC (.int 5)), eLst (evs [eTup (evs [eTup (evs []), eV 1])])]))) (sSeq (sIf (bAnd (bCmp (opCmp .Gt) (eV 1) (eC (.int 0))) (bCmp (opCmp .Eq) (eCall 23 (evs [eV 0, eC (.int 6)])) (eC (.int 0)))) (sSet 2 (eCall 33 (evs [eV 0, eV 1]))) (sPass)) (sSeq (sIf (bOr (bCmp (opCmp .IsNot) (eCall 21 (evs [eV 1, eV 2])) (eC (.bl true))) (bCmp (opCmp .IsNot) (eCallK 21 (evs []) (evs [eV 2, eC (.int 8)]) [1, 0]) (eC (.bl true)))) (sRet (eC (.bl false))) (sPass)) (sSeq (sIf (bCmp (opCmp .NotEq) (eCb fRepr (evs [eCall 21 (evs [eC (.int 0), eV 2])])) (eCb fRepr (evs [eCall 37 (evs [eC (.int 0), eV 2])]))) (sRet (eC (.bl false))) (sPass)) (sSeq (sFor (iRange (evs [eC (.int 10)])) (gNm 3) (sSeq (sSet 4 (eCall 36 (evs [eV 0, eV 2]))) (sSeq (sIf (bCmp (opCmp .NotEq) (eCb fRepr (evs [eCall 21 (evs [eV 1, eV 4])])) (eCb fRepr (evs [eCall 37 (evs [eV 1, eV 4])]))) (sRet (eC (.bl false))) (sPass)) (sSeq (sSet 5 (eCall 23 (evs [eV 0, eBin .Add (eV 1) (eC (.int 1))]))) (sIf (bCmp (opCmp .NotEq) (eCb fRepr (evs [eCall 21 (evs [eV 5, eV 4])])) (eCb fRepr (evs [eCall 37 (evs [eV 5, eV 4])]))) (sRet (eC (.bl false))) (sPass)))))) (sSeq (sFor (iOf (eLst (evs [eC .non, eC (.int 0), eC (.bl true), eC (.str "nearest"), eLst (evs []), eDict0, eTup (evs [eC (.str "nearest"), eC (.str "")])]))) (gNm 6) (sIf (bCmp (opCmp .IsNot) (eCall 21 (evs [eV 1, eV 6])) (eC (.bl false))) (sRet (eC (.bl false))) (sPass))) (sRet (eC (.bl true)))))))))
def P_law : SS := sRet (eCallN1 38 (eCall 22 (evs [eV 0, eC (.int 0)])))
def T : Tab := [(1, P_is_integer), (1, P_is_count), (2, P_is_name), (2, P_is_variable), (1, P_is_head), (1, P_is_rest), (1, P_is_applied), (7, P_standings), (4, P_have_one_sort), (6, P_pieces), (3, P_numbers_of), (3, P_names_of), (2, P_is_term), (4, P_is_pattern), (4, P_is_leaf), (1, P_is_shape), (4, P_is_known_path), (3, P_is_test), (3, P_known_behind), (5, P_is_tree_of), (1, P_want_tree_count), (2, P_is_tree), (4, P__law_pot), (3, P__law_draw), (2, P__law_pick), (1, P__law_is_count), (4, P__law_is_name), (1, P__law_is_shape), (5, P__law_is_known), (2, P__law_is_leaf), (3, P__law_is_tree), (5, P__law_paths), (8, P__law_tree), (7, P__law_long), (3, P__law_bent_leaf), (4, P__law_bent_test), (3, P__law_bent), (2, P__law_is_so), (7, P__law_right), (1, P_law)]
variable {P : Program} {w : World} {K : PySem.W.Frag} {mg : Str → Option Value} {base : Heap}
/-- what the top holds -/
structure GC (mg : Str → Option Value) : Prop where
  b_abs : mg "abs" = none
  b_all : mg "all" = none
  b_any : mg "any" = none
  b_bool : mg "bool" = none
  b_dict : mg "dict" = none
  b_divmod : mg "divmod" = none
  b_int : mg "int" = none
  b_isinstance : mg "isinstance" = none
  b_len : mg "len" = none
  b_list : mg "list" = none
  b_max : mg "max" = none
  b_range : mg "range" = none
  b_repr : mg "repr" = none
  b_set : mg "set" = none
  b_sorted : mg "sorted" = none
  b_str : mg "str" = none
  b_sum : mg "sum" = none
  b_tuple : mg "tuple" = none
  b_zip : mg "zip" = none
  c_DIGITS : HasC mg "DIGITS" (.str "0123456789")
  c_FRESH_NAME : HasC mg "FRESH_NAME" (.str "zz")
  c_GREAT : HasC mg "GREAT" (.str "ABCDEFGHIJKLMNOPQRSTUVWXYZ")
  c_HEAD : HasC mg "HEAD" (.str "head")
  c_IS : HasC mg "IS" (.str "is")
  c_MOST_ARGS : HasC mg "MOST_ARGS" (.int (8))
  c_MOST_DIGITS : HasC mg "MOST_DIGITS" (.int (2))
  c_MOST_NUMBER : HasC mg "MOST_NUMBER" (.int (999))
  c_MOST_POSITIONS : HasC mg "MOST_POSITIONS" (.int (40))
  c_MOST_SHAPE : HasC mg "MOST_SHAPE" (.int (999))
  c_MOST_SIGNS : HasC mg "MOST_SIGNS" (.int (8))
  c_NEAREST : HasC mg "NEAREST" (.str "nearest")
  c_REST : HasC mg "REST" (.str "rest")
  c_SAME : HasC mg "SAME" (.str "same")
  c_SMALL : HasC mg "SMALL" (.str "abcdefghijklmnopqrstuvwxyz")
  c_TERM : HasC mg "TERM" (.str "term")
structure G (P : Program) (w : World) (K : PySem.W.Frag) (mg : Str → Option Value) (base : Heap) (F : Fns) (n : Nat) : Prop extends GC mg where
  f_is_integer : FnR P w K mg base (fun _ => 0) F n 0 "is_integer" ["value"] S_is_integer
  f_is_count : FnR P w K mg base (fun _ => 0) F n 1 "is_count" ["value"] S_is_count
  f_is_name : FnR P w K mg base (fun _ => 0) F n 2 "is_name" ["value"] S_is_name
  f_is_variable : FnR P w K mg base (fun _ => 0) F n 3 "is_variable" ["value"] S_is_variable
  f_is_head : FnR P w K mg base (fun _ => 0) F n 4 "is_head" ["value"] S_is_head
  f_is_rest : FnR P w K mg base (fun _ => 0) F n 5 "is_rest" ["value"] S_is_rest
  f_is_applied : FnR P w K mg base (fun _ => 0) F n 6 "is_applied" ["value"] S_is_applied
  f_standings : FnR P w K mg base (fun _ => 0) F n 7 "standings" ["value"] S_standings
  f_have_one_sort : FnR P w K mg base (fun _ => 0) F n 8 "have_one_sort" ["found"] S_have_one_sort
  f_pieces : FnR P w K mg base (fun _ => 0) F n 9 "pieces" ["term"] S_pieces
  f_numbers_of : FnR P w K mg base (fun _ => 0) F n 10 "numbers_of" ["term"] S_numbers_of
  f_names_of : FnR P w K mg base (fun _ => 0) F n 11 "names_of" ["term"] S_names_of
  f_is_term : FnR P w K mg base (fun _ => 0) F n 12 "is_term" ["value"] S_is_term
  f_is_pattern : FnR P w K mg base (fun _ => 0) F n 13 "is_pattern" ["value"] S_is_pattern
  f_is_leaf : FnR P w K mg base (fun _ => 0) F n 14 "is_leaf" ["value"] S_is_leaf
  f_is_shape : FnR P w K mg base (fun _ => 0) F n 15 "is_shape" ["value"] S_is_shape
  f_is_known_path : FnR P w K mg base (fun _ => 0) F n 16 "is_known_path" ["value", "many", "known"] S_is_known_path
  f_is_test : FnR P w K mg base (fun _ => 0) F n 17 "is_test" ["value", "many", "known"] S_is_test
  f_known_behind : FnR P w K mg base (fun _ => 0) F n 18 "known_behind" ["test", "known"] S_known_behind
  f_is_tree_of : FnR P w K mg base (fun _ => 0) F n 19 "is_tree_of" ["many", "value"] S_is_tree_of
  f_want_tree_count : FnR P w K mg base (fun _ => 0) F n 20 "want_tree_count" ["value"] S_want_tree_count
  f_is_tree : FnR P w K mg base (fun _ => 0) F n 21 "is_tree" ["many", "value"] S_is_tree
  f__law_pot : FnR P w K mg base (fun _ => 0) F n 22 "_law_pot" ["script", "k"] S__law_pot
  f__law_draw : FnR P w K mg base (fun _ => 0) F n 23 "_law_draw" ["pot", "sides"] S__law_draw
  f__law_pick : FnR P w K mg base (fun _ => 0) F n 24 "_law_pick" ["pot", "some"] S__law_pick
  f__law_is_count : FnR P w K mg base (fun _ => 0) F n 25 "_law_is_count" ["value"] S__law_is_count
  f__law_is_name : FnR P w K mg base (fun _ => 0) F n 26 "_law_is_name" ["value"] S__law_is_name
  f__law_is_shape : FnR P w K mg base (fun _ => 0) F n 27 "_law_is_shape" ["value"] S__law_is_shape
  f__law_is_known : FnR P w K mg base (fun _ => 0) F n 28 "_law_is_known" ["value", "known"] S__law_is_known
  f__law_is_leaf : FnR P w K mg base (fun _ => 0) F n 29 "_law_is_leaf" ["value"] S__law_is_leaf
  f__law_is_tree : FnR P w K mg base (fun _ => 0) F n 30 "_law_is_tree" ["value", "known"] S__law_is_tree
  f__law_paths : FnR P w K mg base (fun _ => 0) F n 31 "_law_paths" ["known"] S__law_paths
  f__law_tree : FnR P w K mg base (fun _ => 0) F n 32 "_law_tree" ["pot", "deep", "known"] S__law_tree
  f__law_long : FnR P w K mg base (fun _ => 0) F n 33 "_law_long" ["pot", "many"] S__law_long
  f__law_bent_leaf : FnR P w K mg base (fun _ => 0) F n 34 "_law_bent_leaf" ["pot", "leaf"] S__law_bent_leaf
  f__law_bent_test : FnR P w K mg base (fun _ => 0) F n 35 "_law_bent_test" ["pot", "test"] S__law_bent_test
  f__law_bent : FnR P w K mg base (fun _ => 0) F n 36 "_law_bent" ["pot", "tree"] S__law_bent
  f__law_is_so : FnR P w K mg base (fun _ => 0) F n 37 "_law_is_so" ["many", "value"] S__law_is_so
  f__law_right : FnR P w K mg base (fun _ => 0) F n 38 "_law_right" ["pot"] S__law_right
  f_law : FnR P w K mg base (fun _ => 0) F n 39 "law" ["script"] S_law
theorem sc_is_integer : FnScope N_is_integer ["value"] (defScope S_is_integer) := ⟨rfl, rfl, rfl, by decide +kernel, rfl, by decide +kernel, by decide +kernel⟩
theorem sc_is_count : FnScope N_is_count ["value"] (defScope S_is_count) := ⟨rfl, rfl, rfl, by decide +kernel, rfl, by decide +kernel, by decide +kernel⟩
theorem sc_is_name : FnScope N_is_name ["value"] (defScope S_is_name) := ⟨rfl, rfl, rfl, by decide +kernel, rfl, by decide +kernel, by decide +kernel⟩
theorem sc_is_variable : FnScope N_is_variable ["value"] (defScope S_is_variable) := ⟨rfl, rfl, rfl, by decide +kernel, rfl, by decide +kernel, by decide +kernel⟩
theorem sc_is_head : FnScope N_is_head ["value"] (defScope S_is_head) := ⟨rfl, rfl, rfl, by decide +kernel, rfl, by decide +kernel, by decide +kernel⟩
theorem sc_is_rest : FnScope N_is_rest ["value"] (defScope S_is_rest) := ⟨rfl, rfl, rfl, by decide +kernel, rfl, by decide +kernel, by decide +kernel⟩
theorem sc_is_applied : FnScope N_is_applied ["value"] (defScope S_is_applied) := ⟨rfl, rfl, rfl, by decide +kernel, rfl, by decide +kernel, by decide +kernel⟩
theorem sc_standings : FnScope N_standings ["value"] (defScope S_standings) := ⟨rfl, rfl, rfl, by decide +kernel, rfl, by decide +kernel, by decide +kernel⟩
theorem sc_have_one_sort : FnScope N_have_one_sort ["found"] (defScope S_have_one_sort) := ⟨rfl, rfl, rfl, by decide +kernel, rfl, by decide +kernel, by decide +kernel⟩
theorem sc_pieces : FnScope N_pieces ["term"] (defScope S_pieces) := ⟨rfl, rfl, rfl, by decide +kernel, rfl, by decide +kernel, by decide +kernel⟩
theorem sc_numbers_of : FnScope N_numbers_of ["term"] (defScope S_numbers_of) := ⟨rfl, rfl, rfl, by decide +kernel, rfl, by decide +kernel, by decide +kernel⟩
theorem sc_names_of : FnScope N_names_of ["term"] (defScope S_names_of) := ⟨rfl, rfl, rfl, by decide +kernel, rfl, by decide +kernel, by decide +kernel⟩
theorem sc_is_term : FnScope N_is_term ["value"] (defScope S_is_term) := ⟨rfl, rfl, rfl, by decide +kernel, rfl, by decide +kernel, by decide +kernel⟩
theorem sc_is_pattern : FnScope N_is_pattern ["value"] (defScope S_is_pattern) := ⟨rfl, rfl, rfl, by decide +kernel, rfl, by decide +kernel, by decide +kernel⟩
theorem sc_is_leaf : FnScope N_is_leaf ["value"] (defScope S_is_leaf) := ⟨rfl, rfl, rfl, by decide +kernel, rfl, by decide +kernel, by decide +kernel⟩
theorem sc_is_shape : FnScope N_is_shape ["value"] (defScope S_is_shape) := ⟨rfl, rfl, rfl, by decide +kernel, rfl, by decide +kernel, by decide +kernel⟩
theorem sc_is_known_path : FnScope N_is_known_path ["value", "many", "known"] (defScope S_is_known_path) := ⟨rfl, rfl, rfl, by decide +kernel, rfl, by decide +kernel, by decide +kernel⟩
theorem sc_is_test : FnScope N_is_test ["value", "many", "known"] (defScope S_is_test) := ⟨rfl, rfl, rfl, by decide +kernel, rfl, by decide +kernel, by decide +kernel⟩
theorem sc_known_behind : FnScope N_known_behind ["test", "known"] (defScope S_known_behind) := ⟨rfl, rfl, rfl, by decide +kernel, rfl, by decide +kernel, by decide +kernel⟩
theorem sc_is_tree_of : FnScope N_is_tree_of ["many", "value"] (defScope S_is_tree_of) := ⟨rfl, rfl, rfl, by decide +kernel, rfl, by decide +kernel, by decide +kernel⟩
theorem sc_want_tree_count : FnScope N_want_tree_count ["value"] (defScope S_want_tree_count) := ⟨rfl, rfl, rfl, by decide +kernel, rfl, by decide +kernel, by decide +kernel⟩
theorem sc_is_tree : FnScope N_is_tree ["many", "value"] (defScope S_is_tree) := ⟨rfl, rfl, rfl, by decide +kernel, rfl, by decide +kernel, by decide +kernel⟩
theorem sc__law_pot : FnScope N__law_pot ["script", "k"] (defScope S__law_pot) := ⟨rfl, rfl, rfl, by decide +kernel, rfl, by decide +kernel, by decide +kernel⟩
theorem sc__law_draw : FnScope N__law_draw ["pot", "sides"] (defScope S__law_draw) := ⟨rfl, rfl, rfl, by decide +kernel, rfl, by decide +kernel, by decide +kernel⟩
theorem sc__law_pick : FnScope N__law_pick ["pot", "some"] (defScope S__law_pick) := ⟨rfl, rfl, rfl, by decide +kernel, rfl, by decide +kernel, by decide +kernel⟩
theorem sc__law_is_count : FnScope N__law_is_count ["value"] (defScope S__law_is_count) := ⟨rfl, rfl, rfl, by decide +kernel, rfl, by decide +kernel, by decide +kernel⟩
theorem sc__law_is_name : FnScope N__law_is_name ["value"] (defScope S__law_is_name) := ⟨rfl, rfl, rfl, by decide +kernel, rfl, by decide +kernel, by decide +kernel⟩
theorem sc__law_is_shape : FnScope N__law_is_shape ["value"] (defScope S__law_is_shape) := ⟨rfl, rfl, rfl, by decide +kernel, rfl, by decide +kernel, by decide +kernel⟩
theorem sc__law_is_known : FnScope N__law_is_known ["value", "known"] (defScope S__law_is_known) := ⟨rfl, rfl, rfl, by decide +kernel, rfl, by decide +kernel, by decide +kernel⟩
theorem sc__law_is_leaf : FnScope N__law_is_leaf ["value"] (defScope S__law_is_leaf) := ⟨rfl, rfl, rfl, by decide +kernel, rfl, by decide +kernel, by decide +kernel⟩
theorem sc__law_is_tree : FnScope N__law_is_tree ["value", "known"] (defScope S__law_is_tree) := ⟨rfl, rfl, rfl, by decide +kernel, rfl, by decide +kernel, by decide +kernel⟩
theorem sc__law_paths : FnScope N__law_paths ["known"] (defScope S__law_paths) := ⟨rfl, rfl, rfl, by decide +kernel, rfl, by decide +kernel, by decide +kernel⟩
theorem sc__law_tree : FnScope N__law_tree ["pot", "deep", "known"] (defScope S__law_tree) := ⟨rfl, rfl, rfl, by decide +kernel, rfl, by decide +kernel, by decide +kernel⟩
theorem sc__law_long : FnScope N__law_long ["pot", "many"] (defScope S__law_long) := ⟨rfl, rfl, rfl, by decide +kernel, rfl, by decide +kernel, by decide +kernel⟩
theorem sc__law_bent_leaf : FnScope N__law_bent_leaf ["pot", "leaf"] (defScope S__law_bent_leaf) := ⟨rfl, rfl, rfl, by decide +kernel, rfl, by decide +kernel, by decide +kernel⟩
theorem sc__law_bent_test : FnScope N__law_bent_test ["pot", "test"] (defScope S__law_bent_test) := ⟨rfl, rfl, rfl, by decide +kernel, rfl, by decide +kernel, by decide +kernel⟩
theorem sc__law_bent : FnScope N__law_bent ["pot", "tree"] (defScope S__law_bent) := ⟨rfl, rfl, rfl, by decide +kernel, rfl, by decide +kernel, by decide +kernel⟩
theorem sc__law_is_so : FnScope N__law_is_so ["many", "value"] (defScope S__law_is_so) := ⟨rfl, rfl, rfl, by decide +kernel, rfl, by decide +kernel, by decide +kernel⟩
theorem sc__law_right : FnScope N__law_right ["pot"] (defScope S__law_right) := ⟨rfl, rfl, rfl, by decide +kernel, rfl, by decide +kernel, by decide +kernel⟩
theorem sc_law : FnScope N_law ["script"] (defScope S_law) := ⟨rfl, rfl, rfl, by decide +kernel, rfl, by decide +kernel, by decide +kernel⟩
theorem k_is_integer {F : Fns} {n : Nat} (g : G P w K mg base F n) (f : Addr) (cdv : Value) (A : Around) (outer : List PySem.Env) (s : Shared) (H : Hp) (E : XK) (hr : Room n (A.deeper (envOfC "is_integer" (defScope S_is_integer) s.heap.objs.size f cdv))) (hG : A.guards = some []) :
    PSs (cxOf CX0 P w K mg base N_is_integer "is_integer" (defScope S_is_integer) f cdv A outer s H E).nox (defBody S_is_integer) (rdS K (fun _ => 0) F W0 P_is_integer) :=
  have nd := sc_is_integer.nd
  have hu := hu65 hr
  s_one (s_ret (c_and (w_isi .int g.b_isinstance (pe_bltn (by rfl) g.b_int boot_int rfl) (w_v 0)) (c_and1 (c_not (w_isi .bool g.b_isinstance (pe_bltn (by rfl) g.b_bool boot_bool rfl) (w_v 0))))))
theorem k_is_count {F : Fns} {n : Nat} (g : G P w K mg base F n) (f : Addr) (cdv : Value) (A : Around) (outer : List PySem.Env) (s : Shared) (H : Hp) (E : XK) (hr : Room n (A.deeper (envOfC "is_count" (defScope S_is_count) s.heap.objs.size f cdv))) (hG : A.guards = some []) :
    PSs (cxOf CX0 P w K mg base N_is_count "is_count" (defScope S_is_count) f cdv A outer s H E).nox (defBody S_is_count) (rdS K (fun _ => 0) F W0 P_is_count) :=
  have nd := sc_is_count.nd
  have hu := hu65 hr
  s_one (s_ret (c_and (c_call g.f_is_integer hr hG (by rfl) (a1 (w_v 0) (a0))) (c_and1 (w_cmp hu (w_v 0) (c_int)))))
theorem k_is_name {F : Fns} {n : Nat} (g : G P w K mg base F n) (f : Addr) (cdv : Value) (A : Around) (outer : List PySem.Env) (s : Shared) (H : Hp) (E : XK) (hr : Room n (A.deeper (envOfC "is_name" (defScope S_is_name) s.heap.objs.size f cdv))) (hG : A.guards = some []) :
    PSs (cxOf CX0 P w K mg base N_is_name "is_name" (defScope S_is_name) f cdv A outer s H E).nox (defBody S_is_name) (rdS K (fun _ => 0) F W0 P_is_name) :=
  have nd := sc_is_name.nd
  have hu := hu65 hr
  s_seq (s_if ((cw_or (ct_not (wt_tru (w_isi .str g.b_isinstance (pe_bltn (by rfl) g.b_str boot_str rfl) (w_v 0)))) (cw_or (ct_not (wt_chain hu (c_int) (w_fn or_len on_len boot_len g.b_len (a1 (w_v 0) (a0))) (w_gi g.c_MOST_SIGNS))) (cw_or1 (wt_cmp hu (w_ix hu (w_v 0) (c_int)) (w_gs g.c_SMALL))))).pt) (s_one (s_ret (c_bl))) (s_nil)) (s_one (s_ret (w_fn (cr_all rfl) on_all boot_all g.b_all (a1 (c_lc rfl nd (ci_of (w_v 0)) (blkOk_by (own := [("sign", 1)]) (by rfl)) (by decide) (by rfl) (fun _ _ _ _ _ => t_nm nd (by rfl) (by first | exact Or.inl rfl | exact Or.inr rfl)) (fun _ _ _ _ _ => q_yes) (fun _ _ _ _ _ => c_or (w_cmp hu (w_v 1) (w_gs g.c_SMALL)) (c_or1 (w_cmp hu (w_v 1) (w_gs g.c_DIGITS))))) (a0)))))
theorem k_is_variable {F : Fns} {n : Nat} (g : G P w K mg base F n) (f : Addr) (cdv : Value) (A : Around) (outer : List PySem.Env) (s : Shared) (H : Hp) (E : XK) (hr : Room n (A.deeper (envOfC "is_variable" (defScope S_is_variable) s.heap.objs.size f cdv))) (hG : A.guards = some []) :
    PSs (cxOf CX0 P w K mg base N_is_variable "is_variable" (defScope S_is_variable) f cdv A outer s H E).nox (defBody S_is_variable) (rdS K (fun _ => 0) F W0 P_is_variable) :=
  have nd := sc_is_variable.nd
  have hu := hu65 hr
  s_seq (s_if ((cw_or (ct_not (wt_tru (w_isi .str g.b_isinstance (pe_bltn (by rfl) g.b_str boot_str rfl) (w_v 0)))) (cw_or (ct_not (wt_chain hu (c_int) (w_fn or_len on_len boot_len g.b_len (a1 (w_v 0) (a0))) (w_bin (w_gi g.c_MOST_DIGITS) (c_int)))) (cw_or1 (wt_cmp hu (w_ix hu (w_v 0) (c_int)) (w_gs g.c_GREAT))))).pt) (s_one (s_ret (c_bl))) (s_nil)) (s_one (s_ret (w_fn (cr_all rfl) on_all boot_all g.b_all (a1 (c_lc rfl nd (ci_of (c_sl (w_v 0) (co_some (c_int)) (co_none))) (blkOk_by (own := [("sign", 1)]) (by rfl)) (by decide) (by rfl) (fun _ _ _ _ _ => t_nm nd (by rfl) (by first | exact Or.inl rfl | exact Or.inr rfl)) (fun _ _ _ _ _ => q_yes) (fun _ _ _ _ _ => w_cmp hu (w_v 1) (w_gs g.c_DIGITS))) (a0)))))
theorem k_is_head {F : Fns} {n : Nat} (g : G P w K mg base F n) (f : Addr) (cdv : Value) (A : Around) (outer : List PySem.Env) (s : Shared) (H : Hp) (E : XK) (hr : Room n (A.deeper (envOfC "is_head" (defScope S_is_head) s.heap.objs.size f cdv))) (hG : A.guards = some []) :
    PSs (cxOf CX0 P w K mg base N_is_head "is_head" (defScope S_is_head) f cdv A outer s H E).nox (defBody S_is_head) (rdS K (fun _ => 0) F W0 P_is_head) :=
  have nd := sc_is_head.nd
  have hu := hu65 hr
  s_one (s_ret (c_or (c_call g.f_is_name hr hG (by rfl) (a1 (w_v 0) (a0))) (c_or1 (c_call g.f_is_variable hr hG (by rfl) (a1 (w_v 0) (a0))))))
theorem k_is_rest {F : Fns} {n : Nat} (g : G P w K mg base F n) (f : Addr) (cdv : Value) (A : Around) (outer : List PySem.Env) (s : Shared) (H : Hp) (E : XK) (hr : Room n (A.deeper (envOfC "is_rest" (defScope S_is_rest) s.heap.objs.size f cdv))) (hG : A.guards = some []) :
    PSs (cxOf CX0 P w K mg base N_is_rest "is_rest" (defScope S_is_rest) f cdv A outer s H E).nox (defBody S_is_rest) (rdS K (fun _ => 0) F W0 P_is_rest) :=
  have nd := sc_is_rest.nd
  have hu := hu65 hr
  s_one (s_ret (c_and (w_isi .str g.b_isinstance (pe_bltn (by rfl) g.b_str boot_str rfl) (w_v 0)) (c_and (w_cmp hu (c_sl (w_v 0) (co_none) (co_some (c_int))) (c_str)) (c_and1 (c_call g.f_is_variable hr hG (by rfl) (a1 (c_sl (w_v 0) (co_some (c_int)) (co_none)) (a0)))))))
theorem k_is_applied {F : Fns} {n : Nat} (g : G P w K mg base F n) (f : Addr) (cdv : Value) (A : Around) (outer : List PySem.Env) (s : Shared) (H : Hp) (E : XK) (hr : Room n (A.deeper (envOfC "is_applied" (defScope S_is_applied) s.heap.objs.size f cdv))) (hG : A.guards = some []) :
    PSs (cxOf CX0 P w K mg base N_is_applied "is_applied" (defScope S_is_applied) f cdv A outer s H E).nox (defBody S_is_applied) (rdS K (fun _ => 0) F W0 P_is_applied) :=
  have nd := sc_is_applied.nd
  have hu := hu65 hr
  s_one (s_ret (c_and (w_isi .tuple g.b_isinstance (pe_bltn (by rfl) g.b_tuple boot_tuple rfl) (w_v 0)) (c_and1 (w_cmp hu (w_fn or_len on_len boot_len g.b_len (a1 (w_v 0) (a0))) (c_int)))))
theorem k_standings {F : Fns} {n : Nat} (g : G P w K mg base F n) (f : Addr) (cdv : Value) (A : Around) (outer : List PySem.Env) (s : Shared) (H : Hp) (E : XK) (hr : Room n (A.deeper (envOfC "standings" (defScope S_standings) s.heap.objs.size f cdv))) (hG : A.guards = some []) :
    PSs (cxOf CX0 P w K mg base N_standings "standings" (defScope S_standings) f cdv A outer s H E).nox (defBody S_standings) (rdS K (fun _ => 0) F W0 P_standings) :=
  have nd := sc_standings.nd
  have hu := hu65 hr
  s_seq (s_par rfl nd (by rfl) (by rfl) (by decide) (by rfl) (by rfl) (c_lst (a0)) (c_lst (a1 (c_tup (a1 (w_v 0) (a1 (c_bl) (a0)))) (a0))) (by rfl)) (s_seq (s_while PassesOwn.never (wt_cmp hu (w_v 2) (c_lst (a0))) (s_seq (s_asg (c_pop (w_v 2)) (g_tp rfl (gs_cons (g_nm nd (by rfl) (by first | exact Or.inl rfl | exact Or.inr rfl)) (gs_cons (g_nm nd (by rfl) (by first | exact Or.inl rfl | exact Or.inr rfl)) (gs_nil))))) (s_one (s_if (wt_tru (c_call g.f_is_variable hr hG (by rfl) (a1 (w_v 3) (a0)))) (s_one (s_drop (c_append (w_v 1) (c_tup (a1 (w_gs g.c_TERM) (a1 (w_v 3) (a0))))))) (s_one (s_if ((cw_and (wt_tru (w_v 4)) (cw_and1 (wt_tru (c_call g.f_is_rest hr hG (by rfl) (a1 (w_v 3) (a0)))))).pt) (s_one (s_drop (c_append (w_v 1) (c_tup (a1 (w_gs g.c_REST) (a1 (c_sl (w_v 3) (co_some (c_int)) (co_none)) (a0))))))) (s_one (s_if ((cw_and (wt_tru (c_call g.f_is_applied hr hG (by rfl) (a1 (w_v 3) (a0)))) (cw_and (wt_tru (c_call g.f_is_head hr hG (by rfl) (a1 (w_ix hu (w_v 3) (c_int)) (a0)))) (cw_and1 (wt_tru (w_isi .tuple g.b_isinstance (pe_bltn (by rfl) g.b_tuple boot_tuple rfl) (w_ix hu (w_v 3) (c_int))))))).pt) (s_seq (s_if (wt_tru (c_call g.f_is_variable hr hG (by rfl) (a1 (w_ix hu (w_v 3) (c_int)) (a0)))) (s_one (s_drop (c_append (w_v 1) (c_tup (a1 (w_gs g.c_HEAD) (a1 (w_ix hu (w_v 3) (c_int)) (a0))))))) (s_nil)) (s_seq (s_set nd (by rfl) (by first | exact Or.inl rfl | exact Or.inr rfl) (w_bin (w_fn or_len on_len boot_len g.b_len (a1 (w_ix hu (w_v 3) (c_int)) (a0))) (c_int))) (s_one (s_drop (c_extend (w_v 2) (c_lc rfl nd (w_r3 g.b_range (w_v 5) (c_neg (c_int)) (c_neg (c_int))) (blkOk_by (own := [("at", 6)]) (by rfl)) (by decide) (by rfl) (fun _ _ _ _ _ => t_nm nd (by rfl) (by first | exact Or.inl rfl | exact Or.inr rfl)) (fun _ _ _ _ _ => q_yes) (fun _ _ _ _ _ => c_tup (a1 (w_ix hu (w_ix hu (w_v 3) (c_int)) (w_v 6)) (a1 (w_cmp hu (w_v 6) (w_v 5)) (a0)))))))))) (s_one (s_if (ct_not (wt_tru (c_call g.f_is_integer hr hG (by rfl) (a1 (w_v 3) (a0))))) (s_one (s_ret (c_non))) (s_nil))))))))))) (s_one (s_ret (w_v 1))))
theorem k_have_one_sort {F : Fns} {n : Nat} (g : G P w K mg base F n) (f : Addr) (cdv : Value) (A : Around) (outer : List PySem.Env) (s : Shared) (H : Hp) (E : XK) (hr : Room n (A.deeper (envOfC "have_one_sort" (defScope S_have_one_sort) s.heap.objs.size f cdv))) (hG : A.guards = some []) :
    PSs (cxOf CX0 P w K mg base N_have_one_sort "have_one_sort" (defScope S_have_one_sort) f cdv A outer s H E).nox (defBody S_have_one_sort) (rdS K (fun _ => 0) F W0 P_have_one_sort) :=
  have nd := sc_have_one_sort.nd
  have hu := hu65 hr
  s_seq (s_set nd (by rfl) (by first | exact Or.inl rfl | exact Or.inr rfl) (c_dict0)) (s_one (s_ret (w_fn (cr_all rfl) on_all boot_all g.b_all (a1 (c_lc rfl nd (ci_of (w_v 0)) (blkOk_by (own := [("sort", 2), ("variable", 3)]) (by rfl)) (by decide) (by rfl) (fun _ _ _ _ _ => t_tp rfl (t_cons (t_nm nd (by rfl) (by first | exact Or.inl rfl | exact Or.inr rfl)) (t_cons (t_nm nd (by rfl) (by first | exact Or.inl rfl | exact Or.inr rfl)) (t_nil)))) (fun _ _ _ _ _ => q_yes) (fun _ _ _ _ _ => w_cmp hu (c_setd (w_v 1) (w_v 3) (w_v 2) ⟨by rfl, by rfl, by rfl, by rfl⟩) (w_v 2))) (a0)))))
theorem k_pieces {F : Fns} {n : Nat} (g : G P w K mg base F n) (f : Addr) (cdv : Value) (A : Around) (outer : List PySem.Env) (s : Shared) (H : Hp) (E : XK) (hr : Room n (A.deeper (envOfC "pieces" (defScope S_pieces) s.heap.objs.size f cdv))) (hG : A.guards = some []) :
    PSs (cxOf CX0 P w K mg base N_pieces "pieces" (defScope S_pieces) f cdv A outer s H E).nox (defBody S_pieces) (rdS K (fun _ => 0) F W0 P_pieces) :=
  have nd := sc_pieces.nd
  have hu := hu65 hr
  s_seq (s_par rfl nd (by rfl) (by rfl) (by decide) (by rfl) (by rfl) (c_lst (a0)) (c_lst (a1 (c_tup (a1 (w_v 0) (a1 (c_int) (a0)))) (a0))) (by rfl)) (s_seq (s_while PassesOwn.never (wt_cmp hu (w_v 2) (c_lst (a0))) (s_seq (s_asg (c_pop (w_v 2)) (g_tp rfl (gs_cons (g_nm nd (by rfl) (by first | exact Or.inl rfl | exact Or.inr rfl)) (gs_cons (g_nm nd (by rfl) (by first | exact Or.inl rfl | exact Or.inr rfl)) (gs_nil))))) (s_seq (s_drop (c_append (w_v 1) (c_tup (a1 (w_v 3) (a1 (w_v 4) (a0)))))) (s_one (s_if (wt_tru (c_call g.f_is_applied hr hG (by rfl) (a1 (w_v 3) (a0)))) (s_one (s_drop (c_extend (w_v 2) (c_lc rfl nd (ci_of (c_rev (w_ix hu (w_v 3) (c_int)))) (blkOk_by (own := [("arg", 5)]) (by rfl)) (by decide) (by rfl) (fun _ _ _ _ _ => t_nm nd (by rfl) (by first | exact Or.inl rfl | exact Or.inr rfl)) (fun _ _ _ _ _ => q_yes) (fun _ _ _ _ _ => c_tup (a1 (w_v 5) (a1 (w_bin (w_v 4) (c_int)) (a0)))))))) (s_nil)))))) (s_one (s_ret (w_v 1))))
theorem k_numbers_of {F : Fns} {n : Nat} (g : G P w K mg base F n) (f : Addr) (cdv : Value) (A : Around) (outer : List PySem.Env) (s : Shared) (H : Hp) (E : XK) (hr : Room n (A.deeper (envOfC "numbers_of" (defScope S_numbers_of) s.heap.objs.size f cdv))) (hG : A.guards = some []) :
    PSs (cxOf CX0 P w K mg base N_numbers_of "numbers_of" (defScope S_numbers_of) f cdv A outer s H E).nox (defBody S_numbers_of) (rdS K (fun _ => 0) F W0 P_numbers_of) :=
  have nd := sc_numbers_of.nd
  have hu := hu65 hr
  s_one (s_ret (w_sset g.b_sorted g.b_set (a1 (c_lc rfl nd (ci_of (c_call g.f_pieces hr hG (by rfl) (a1 (w_v 0) (a0)))) (blkOk_by (own := [("piece", 1), ("level", 2)]) (by rfl)) (by decide) (by rfl) (fun _ _ _ _ _ => t_tp rfl (t_cons (t_nm nd (by rfl) (by first | exact Or.inl rfl | exact Or.inr rfl)) (t_cons (t_nm nd (by rfl) (by first | exact Or.inl rfl | exact Or.inr rfl)) (t_nil)))) (fun _ _ _ _ _ => q_one (wt_tru (c_call g.f_is_integer hr hG (by rfl) (a1 (w_v 1) (a0))))) (fun _ _ _ _ _ => w_v 1)) (a0))))
theorem k_names_of {F : Fns} {n : Nat} (g : G P w K mg base F n) (f : Addr) (cdv : Value) (A : Around) (outer : List PySem.Env) (s : Shared) (H : Hp) (E : XK) (hr : Room n (A.deeper (envOfC "names_of" (defScope S_names_of) s.heap.objs.size f cdv))) (hG : A.guards = some []) :
    PSs (cxOf CX0 P w K mg base N_names_of "names_of" (defScope S_names_of) f cdv A outer s H E).nox (defBody S_names_of) (rdS K (fun _ => 0) F W0 P_names_of) :=
  have nd := sc_names_of.nd
  have hu := hu65 hr
  s_one (s_ret (w_sset g.b_sorted g.b_set (a1 (c_lc rfl nd (ci_of (c_call g.f_pieces hr hG (by rfl) (a1 (w_v 0) (a0)))) (blkOk_by (own := [("piece", 1), ("level", 2)]) (by rfl)) (by decide) (by rfl) (fun _ _ _ _ _ => t_tp rfl (t_cons (t_nm nd (by rfl) (by first | exact Or.inl rfl | exact Or.inr rfl)) (t_cons (t_nm nd (by rfl) (by first | exact Or.inl rfl | exact Or.inr rfl)) (t_nil)))) (fun _ _ _ _ _ => q_one ((cw_and (wt_tru (c_call g.f_is_applied hr hG (by rfl) (a1 (w_v 1) (a0)))) (cw_and1 (wt_tru (c_call g.f_is_name hr hG (by rfl) (a1 (w_ix hu (w_v 1) (c_int)) (a0)))))).pt)) (fun _ _ _ _ _ => w_ix hu (w_v 1) (c_int))) (a0))))
theorem k_is_term {F : Fns} {n : Nat} (g : G P w K mg base F n) (f : Addr) (cdv : Value) (A : Around) (outer : List PySem.Env) (s : Shared) (H : Hp) (E : XK) (hr : Room n (A.deeper (envOfC "is_term" (defScope S_is_term) s.heap.objs.size f cdv))) (hG : A.guards = some []) :
    PSs (cxOf CX0 P w K mg base N_is_term "is_term" (defScope S_is_term) f cdv A outer s H E).nox (defBody S_is_term) (rdS K (fun _ => 0) F W0 P_is_term) :=
  have nd := sc_is_term.nd
  have hu := hu65 hr
  s_seq (s_set nd (by rfl) (by first | exact Or.inl rfl | exact Or.inr rfl) (c_call g.f_standings hr hG (by rfl) (a1 (w_v 0) (a0)))) (s_one (s_ret (c_and (w_cmp hu (w_v 1) (c_non)) (c_and1 (c_call g.f_have_one_sort hr hG (by rfl) (a1 (w_v 1) (a0)))))))
theorem k_is_pattern {F : Fns} {n : Nat} (g : G P w K mg base F n) (f : Addr) (cdv : Value) (A : Around) (outer : List PySem.Env) (s : Shared) (H : Hp) (E : XK) (hr : Room n (A.deeper (envOfC "is_pattern" (defScope S_is_pattern) s.heap.objs.size f cdv))) (hG : A.guards = some []) :
    PSs (cxOf CX0 P w K mg base N_is_pattern "is_pattern" (defScope S_is_pattern) f cdv A outer s H E).nox (defBody S_is_pattern) (rdS K (fun _ => 0) F W0 P_is_pattern) :=
  have nd := sc_is_pattern.nd
  have hu := hu65 hr
  s_seq (s_if (ct_not (wt_tru (c_call g.f_is_term hr hG (by rfl) (a1 (w_v 0) (a0))))) (s_one (s_ret (c_bl))) (s_nil)) (s_seq (s_set nd (by rfl) (by first | exact Or.inl rfl | exact Or.inr rfl) (w_fn (cr_all rfl) on_all boot_all g.b_all (a1 (c_lc rfl nd (ci_of (c_call g.f_numbers_of hr hG (by rfl) (a1 (w_v 0) (a0)))) (blkOk_by (own := [("number", 2)]) (by rfl)) (by decide) (by rfl) (fun _ _ _ _ _ => t_nm nd (by rfl) (by first | exact Or.inl rfl | exact Or.inr rfl)) (fun _ _ _ _ _ => q_yes) (fun _ _ _ _ _ => w_cmp hu (w_fn call_abs on_abs boot_abs g.b_abs (a1 (w_v 2) (a0))) (w_gi g.c_MOST_NUMBER))) (a0)))) (s_one (s_ret (c_and (w_v 1) (c_and1 (c_not (w_fn (cr_any rfl) on_any boot_any g.b_any (a1 (c_lc rfl nd (ci_of (c_call g.f_names_of hr hG (by rfl) (a1 (w_v 0) (a0)))) (blkOk_by (own := [("name", 3)]) (by rfl)) (by decide) (by rfl) (fun _ _ _ _ _ => t_nm nd (by rfl) (by first | exact Or.inl rfl | exact Or.inr rfl)) (fun _ _ _ _ _ => q_yes) (fun _ _ _ _ _ => w_cmp hu (c_sl (w_v 3) (co_none) (co_some (c_int))) (w_gs g.c_FRESH_NAME))) (a0)))))))))
theorem k_is_leaf {F : Fns} {n : Nat} (g : G P w K mg base F n) (f : Addr) (cdv : Value) (A : Around) (outer : List PySem.Env) (s : Shared) (H : Hp) (E : XK) (hr : Room n (A.deeper (envOfC "is_leaf" (defScope S_is_leaf) s.heap.objs.size f cdv))) (hG : A.guards = some []) :
    PSs (cxOf CX0 P w K mg base N_is_leaf "is_leaf" (defScope S_is_leaf) f cdv A outer s H E).nox (defBody S_is_leaf) (rdS K (fun _ => 0) F W0 P_is_leaf) :=
  have nd := sc_is_leaf.nd
  have hu := hu65 hr
  s_seq (s_if ((cw_or (ct_not (wt_tru (w_isi .tuple g.b_isinstance (pe_bltn (by rfl) g.b_tuple boot_tuple rfl) (w_v 0)))) (cw_or (wt_cmp hu (w_fn or_len on_len boot_len g.b_len (a1 (w_v 0) (a0))) (c_int)) (cw_or (ct_not (wt_tru (w_isi .str g.b_isinstance (pe_bltn (by rfl) g.b_str boot_str rfl) (w_ix hu (w_v 0) (c_int))))) (cw_or1 (wt_cmp hu (w_ix hu (w_v 0) (c_int)) (w_gs g.c_NEAREST)))))).pt) (s_one (s_ret (c_bl))) (s_nil)) (s_seq (s_if ((cw_or (ct_not (wt_tru (w_isi .tuple g.b_isinstance (pe_bltn (by rfl) g.b_tuple boot_tuple rfl) (w_ix hu (w_v 0) (c_int))))) (cw_or1 (ct_not (wt_tru (w_fn (cr_all rfl) on_all boot_all g.b_all (a1 (c_lc rfl nd (ci_of (w_ix hu (w_v 0) (c_int))) (blkOk_by (own := [("at", 1)]) (by rfl)) (by decide) (by rfl) (fun _ _ _ _ _ => t_nm nd (by rfl) (by first | exact Or.inl rfl | exact Or.inr rfl)) (fun _ _ _ _ _ => q_yes) (fun _ _ _ _ _ => c_and (c_call g.f_is_count hr hG (by rfl) (a1 (w_v 1) (a0))) (c_and1 (w_cmp hu (w_v 1) (w_gi g.c_MOST_POSITIONS))))) (a0))))))).pt) (s_one (s_ret (c_bl))) (s_nil)) (s_one (s_ret (w_fn (cr_all rfl) on_all boot_all g.b_all (a1 (c_lc rfl nd (wi_zip g.b_zip (a1 (w_ix hu (w_v 0) (c_int)) (a1 (c_sl (w_ix hu (w_v 0) (c_int)) (co_some (c_int)) (co_none)) (a0)))) (blkOk_by (own := [("near", 2), ("far", 3)]) (by rfl)) (by decide) (by rfl) (fun _ _ _ _ _ => t_tp rfl (t_cons (t_nm nd (by rfl) (by first | exact Or.inl rfl | exact Or.inr rfl)) (t_cons (t_nm nd (by rfl) (by first | exact Or.inl rfl | exact Or.inr rfl)) (t_nil)))) (fun _ _ _ _ _ => q_yes) (fun _ _ _ _ _ => w_cmp hu (w_v 2) (w_v 3))) (a0))))))
theorem k_is_shape {F : Fns} {n : Nat} (g : G P w K mg base F n) (f : Addr) (cdv : Value) (A : Around) (outer : List PySem.Env) (s : Shared) (H : Hp) (E : XK) (hr : Room n (A.deeper (envOfC "is_shape" (defScope S_is_shape) s.heap.objs.size f cdv))) (hG : A.guards = some []) :
    PSs (cxOf CX0 P w K mg base N_is_shape "is_shape" (defScope S_is_shape) f cdv A outer s H E).nox (defBody S_is_shape) (rdS K (fun _ => 0) F W0 P_is_shape) :=
  have nd := sc_is_shape.nd
  have hu := hu65 hr
  s_seq (s_if (wt_tru (c_call g.f_is_integer hr hG (by rfl) (a1 (w_v 0) (a0)))) (s_one (s_ret (w_cmp hu (w_fn call_abs on_abs boot_abs g.b_abs (a1 (w_v 0) (a0))) (w_gi g.c_MOST_SHAPE)))) (s_nil)) (s_seq (s_if ((cw_or (ct_not (wt_tru (w_isi .tuple g.b_isinstance (pe_bltn (by rfl) g.b_tuple boot_tuple rfl) (w_v 0)))) (cw_or (wt_cmp hu (w_fn or_len on_len boot_len g.b_len (a1 (w_v 0) (a0))) (c_int)) (cw_or (ct_not (wt_tru (c_call g.f_is_name hr hG (by rfl) (a1 (w_ix hu (w_v 0) (c_int)) (a0))))) (cw_or1 (ct_not (wt_tru (c_call g.f_is_pattern hr hG (by rfl) (a1 (c_tup (a1 (w_ix hu (w_v 0) (c_int)) (a1 (c_tup (a0)) (a0)))) (a0))))))))).pt) (s_one (s_ret (c_bl))) (s_nil)) (s_one (s_ret (c_and (c_call g.f_is_count hr hG (by rfl) (a1 (w_ix hu (w_v 0) (c_int)) (a0))) (c_and1 (w_cmp hu (w_ix hu (w_v 0) (c_int)) (w_gi g.c_MOST_ARGS)))))))
theorem k_is_known_path {F : Fns} {n : Nat} (g : G P w K mg base F n) (f : Addr) (cdv : Value) (A : Around) (outer : List PySem.Env) (s : Shared) (H : Hp) (E : XK) (hr : Room n (A.deeper (envOfC "is_known_path" (defScope S_is_known_path) s.heap.objs.size f cdv))) (hG : A.guards = some []) :
    PSs (cxOf CX0 P w K mg base N_is_known_path "is_known_path" (defScope S_is_known_path) f cdv A outer s H E).nox (defBody S_is_known_path) (rdS K (fun _ => 0) F W0 P_is_known_path) :=
  have nd := sc_is_known_path.nd
  have hu := hu65 hr
  s_seq (s_if ((cw_or (ct_not (wt_tru (w_isi .tuple g.b_isinstance (pe_bltn (by rfl) g.b_tuple boot_tuple rfl) (w_v 0)))) (cw_or (wt_cmp hu (w_v 0) (c_tup (a0))) (cw_or1 (ct_not (wt_tru (w_fn (cr_all rfl) on_all boot_all g.b_all (a1 (c_lc rfl nd (ci_of (w_v 0)) (blkOk_by (own := [("at", 3)]) (by rfl)) (by decide) (by rfl) (fun _ _ _ _ _ => t_nm nd (by rfl) (by first | exact Or.inl rfl | exact Or.inr rfl)) (fun _ _ _ _ _ => q_yes) (fun _ _ _ _ _ => c_call g.f_is_count hr hG (by rfl) (a1 (w_v 3) (a0)))) (a0)))))))).pt) (s_one (s_ret (c_bl))) (s_nil)) (s_one (s_ret (w_cmp hu (w_ix hu (w_v 0) (c_neg (c_int))) (c_if (wt_cmp hu (w_fn or_len on_len boot_len g.b_len (a1 (w_v 0) (a0))) (c_int)) (w_v 1) (c_get2T (lt1 hu) (w_v 2) (c_sl (w_v 0) (co_none) (co_some (c_neg (c_int)))) (c_int) ⟨by rfl, by rfl, by rfl, by rfl⟩)))))
theorem k_is_test {F : Fns} {n : Nat} (g : G P w K mg base F n) (f : Addr) (cdv : Value) (A : Around) (outer : List PySem.Env) (s : Shared) (H : Hp) (E : XK) (hr : Room n (A.deeper (envOfC "is_test" (defScope S_is_test) s.heap.objs.size f cdv))) (hG : A.guards = some []) :
    PSs (cxOf CX0 P w K mg base N_is_test "is_test" (defScope S_is_test) f cdv A outer s H E).nox (defBody S_is_test) (rdS K (fun _ => 0) F W0 P_is_test) :=
  have nd := sc_is_test.nd
  have hu := hu65 hr
  s_seq (s_if ((cw_or (ct_not (wt_tru (w_isi .tuple g.b_isinstance (pe_bltn (by rfl) g.b_tuple boot_tuple rfl) (w_v 0)))) (cw_or (wt_cmp hu (w_fn or_len on_len boot_len g.b_len (a1 (w_v 0) (a0))) (c_int)) (cw_or1 (ct_not (wt_tru (w_isi .str g.b_isinstance (pe_bltn (by rfl) g.b_str boot_str rfl) (w_ix hu (w_v 0) (c_int)))))))).pt) (s_one (s_ret (c_bl))) (s_nil)) (s_seq (s_if ((cw_or (wt_cmp hu (w_ix hu (w_v 0) (c_int)) (c_tup (a1 (w_gs g.c_IS) (a1 (w_gs g.c_SAME) (a0))))) (cw_or1 (ct_not (wt_tru (c_call g.f_is_known_path hr hG (by rfl) (a1 (w_ix hu (w_v 0) (c_int)) (a1 (w_v 1) (a1 (w_v 2) (a0))))))))).pt) (s_one (s_ret (c_bl))) (s_nil)) (s_one (s_ret (c_if (wt_cmp hu (w_ix hu (w_v 0) (c_int)) (w_gs g.c_IS)) (c_call g.f_is_shape hr hG (by rfl) (a1 (w_ix hu (w_v 0) (c_int)) (a0))) (c_call g.f_is_known_path hr hG (by rfl) (a1 (w_ix hu (w_v 0) (c_int)) (a1 (w_v 1) (a1 (w_v 2) (a0)))))))))
theorem k_known_behind {F : Fns} {n : Nat} (g : G P w K mg base F n) (f : Addr) (cdv : Value) (A : Around) (outer : List PySem.Env) (s : Shared) (H : Hp) (E : XK) (hr : Room n (A.deeper (envOfC "known_behind" (defScope S_known_behind) s.heap.objs.size f cdv))) (hG : A.guards = some []) :
    PSs (cxOf CX0 P w K mg base N_known_behind "known_behind" (defScope S_known_behind) f cdv A outer s H E).nox (defBody S_known_behind) (rdS K (fun _ => 0) F W0 P_known_behind) :=
  have nd := sc_known_behind.nd
  have hu := hu65 hr
  s_seq (s_if ((cw_or (wt_cmp hu (w_ix hu (w_v 0) (c_int)) (w_gs g.c_SAME)) (cw_or1 (wt_tru (c_call g.f_is_integer hr hG (by rfl) (a1 (w_ix hu (w_v 0) (c_int)) (a0)))))).pt) (s_one (s_ret (w_v 1))) (s_nil)) (s_seq (s_set nd (by rfl) (by first | exact Or.inl rfl | exact Or.inr rfl) (w_ty (call_dictT hu) on_dictT boot_dict g.b_dict (a1 (w_v 1) (a0)))) (s_seq (s_asg (w_fn (or_max rfl) on_max boot_max g.b_max (a1 (w_ix hu (w_ix hu (w_v 0) (c_int)) (c_int)) (a1 (c_get2T (lt1 hu) (w_v 1) (w_ix hu (w_v 0) (c_int)) (c_int) ⟨by rfl, by rfl, by rfl, by rfl⟩) (a0)))) (g_sb (lt1 hu) (w_v 2) (w_ix hu (w_v 0) (c_int)))) (s_one (s_ret (w_v 2)))))
theorem k_is_tree_of {F : Fns} {n : Nat} (g : G P w K mg base F n) (f : Addr) (cdv : Value) (A : Around) (outer : List PySem.Env) (s : Shared) (H : Hp) (E : XK) (hr : Room n (A.deeper (envOfC "is_tree_of" (defScope S_is_tree_of) s.heap.objs.size f cdv))) (hG : A.guards = some []) :
    PSs (cxOf CX0 P w K mg base N_is_tree_of "is_tree_of" (defScope S_is_tree_of) f cdv A outer s H E).nox (defBody S_is_tree_of) (rdS K (fun _ => 0) F W0 P_is_tree_of) :=
  have nd := sc_is_tree_of.nd
  have hu := hu65 hr
  s_seq (s_set nd (by rfl) (by first | exact Or.inl rfl | exact Or.inr rfl) (c_lst (a1 (c_tup (a1 (w_v 1) (a1 (c_dictT0) (a0)))) (a0)))) (s_seq (s_while PassesOwn.never (wt_cmp hu (w_v 2) (c_lst (a0))) (s_seq (s_asg (c_pop (w_v 2)) (g_tp rfl (gs_cons (g_nm nd (by rfl) (by first | exact Or.inl rfl | exact Or.inr rfl)) (gs_cons (g_nm nd (by rfl) (by first | exact Or.inl rfl | exact Or.inr rfl)) (gs_nil))))) (s_one (s_if (ct_not (wt_tru (c_call g.f_is_leaf hr hG (by rfl) (a1 (w_v 3) (a0))))) (s_seq (s_if (ct_not (wt_tru (c_call g.f_is_test hr hG (by rfl) (a1 (w_v 3) (a1 (w_v 0) (a1 (w_v 4) (a0))))))) (s_one (s_ret (c_bl))) (s_nil)) (s_one (s_drop (c_extend (w_v 2) (c_lst (a1 (c_tup (a1 (w_ix hu (w_v 3) (c_int)) (a1 (w_v 4) (a0)))) (a1 (c_tup (a1 (w_ix hu (w_v 3) (c_int)) (a1 (c_call g.f_known_behind hr hG (by rfl) (a1 (w_v 3) (a1 (w_v 4) (a0)))) (a0)))) (a0)))))))) (s_nil))))) (s_one (s_ret (c_bl))))
theorem k_want_tree_count {F : Fns} {n : Nat} (g : G P w K mg base F n) (f : Addr) (cdv : Value) (A : Around) (outer : List PySem.Env) (s : Shared) (H : Hp) (E : XK) (hr : Room n (A.deeper (envOfC "want_tree_count" (defScope S_want_tree_count) s.heap.objs.size f cdv))) (hG : A.guards = some []) :
    PSs (cxOf CX0 P w K mg base N_want_tree_count "want_tree_count" (defScope S_want_tree_count) f cdv A outer s H E).nox (defBody S_want_tree_count) (rdS K (fun _ => 0) F W0 P_want_tree_count) :=
  have nd := sc_want_tree_count.nd
  have hu := hu65 hr
  s_seq (s_if ((cw_or (ct_not (wt_tru (c_call g.f_is_count hr hG (by rfl) (a1 (w_v 0) (a0))))) (cw_or1 (wt_cmp hu (w_v 0) (w_gi g.c_MOST_ARGS)))).pt) (s_one (s_never)) (s_nil)) (s_one (s_ret (w_v 0)))
theorem k_is_tree {F : Fns} {n : Nat} (g : G P w K mg base F n) (f : Addr) (cdv : Value) (A : Around) (outer : List PySem.Env) (s : Shared) (H : Hp) (E : XK) (hr : Room n (A.deeper (envOfC "is_tree" (defScope S_is_tree) s.heap.objs.size f cdv))) (hG : A.guards = some []) :
    PSs (cxOf CX0 P w K mg base N_is_tree "is_tree" (defScope S_is_tree) f cdv A outer s H E).nox (defBody S_is_tree) (rdS K (fun _ => 0) F W0 P_is_tree) :=
  have nd := sc_is_tree.nd
  have hu := hu65 hr
  s_one (s_ret (c_call g.f_is_tree_of hr hG (by rfl) (a1 (c_call g.f_want_tree_count hr hG (by rfl) (a1 (w_v 0) (a0))) (a1 (w_v 1) (a0)))))
theorem k__law_pot {F : Fns} {n : Nat} (g : G P w K mg base F n) (f : Addr) (cdv : Value) (A : Around) (outer : List PySem.Env) (s : Shared) (H : Hp) (E : XK) (hr : Room n (A.deeper (envOfC "_law_pot" (defScope S__law_pot) s.heap.objs.size f cdv))) (hG : A.guards = some []) :
    PSs (cxOf CX0 P w K mg base N__law_pot "_law_pot" (defScope S__law_pot) f cdv A outer s H E).nox (defBody S__law_pot) (rdS K (fun _ => 0) F W0 P__law_pot) :=
  have nd := sc__law_pot.nd
  have hu := hu65 hr
  s_seq (s_set nd (by rfl) (by first | exact Or.inl rfl | exact Or.inr rfl) (c_if (wt_cmp hu (w_v 1) (w_fn or_len on_len boot_len g.b_len (a1 (w_v 0) (a0)))) (w_fn call_abs on_abs boot_abs g.b_abs (a1 (w_ix hu (w_v 0) (w_v 1)) (a0))) (w_bin (w_bin (w_bin (c_int) (w_v 1)) (c_int)) (w_bin (w_fn call_abs on_abs boot_abs g.b_abs (a1 (w_fn (cr_sum rfl) on_sum boot_sum g.b_sum (a1 (c_sl (w_v 0) (co_none) (co_some (c_int))) (a0))) (a0))) (c_int))))) (s_seq (s_set nd (by rfl) (by first | exact Or.inl rfl | exact Or.inr rfl) (w_bin (w_bin (w_ty call_int1 on_int boot_int g.b_int (a1 (w_bin (w_bin (w_bin (w_bin (w_ty call_int1 on_int boot_int g.b_int (a1 (w_v 2) (a0))) (c_int)) (c_int)) (w_bin (c_int) (w_v 1))) (c_int)) (a0))) (c_int)) (c_int))) (s_one (s_ret (c_lst (a1 (w_fn (or_max rfl) on_max boot_max g.b_max (a1 (c_int) (a1 (w_bin (w_v 2) (w_bin (c_int) (c_int))) (a0)))) (a1 (w_v 3) (a0)))))))
theorem k__law_draw {F : Fns} {n : Nat} (g : G P w K mg base F n) (f : Addr) (cdv : Value) (A : Around) (outer : List PySem.Env) (s : Shared) (H : Hp) (E : XK) (hr : Room n (A.deeper (envOfC "_law_draw" (defScope S__law_draw) s.heap.objs.size f cdv))) (hG : A.guards = some []) :
    PSs (cxOf CX0 P w K mg base N__law_draw "_law_draw" (defScope S__law_draw) f cdv A outer s H E).nox (defBody S__law_draw) (rdS K (fun _ => 0) F W0 P__law_draw) :=
  have nd := sc__law_draw.nd
  have hu := hu65 hr
  s_seq (s_if (wt_cmp hu (w_ix hu (w_v 0) (c_int)) (c_int)) (s_seq (s_asg (w_fn call_divmod on_divmod boot_divmod g.b_divmod (a1 (w_ix hu (w_v 0) (c_int)) (a1 (w_v 1) (a0)))) (g_tp rfl (gs_cons (g_sb (lt1 hu) (w_v 0) (c_int)) (gs_cons (g_nm nd (by rfl) (by first | exact Or.inl rfl | exact Or.inr rfl)) (gs_nil))))) (s_one (s_ret (w_v 2)))) (s_nil)) (s_seq (s_asg (w_bin (w_ty call_int1 on_int boot_int g.b_int (a1 (w_bin (w_bin (w_ix hu (w_v 0) (c_int)) (c_int)) (c_int)) (a0))) (c_int)) (g_sb (lt1 hu) (w_v 0) (c_int))) (s_one (s_ret (w_bin (w_ty call_int1 on_int boot_int g.b_int (a1 (w_bin (w_bin (w_ty call_int1 on_int boot_int g.b_int (a1 (w_bin (w_ix hu (w_v 0) (c_int)) (w_ix hu (w_v 0) (c_int))) (a0))) (c_int)) (c_int)) (a0))) (w_v 1)))))
theorem k__law_pick {F : Fns} {n : Nat} (g : G P w K mg base F n) (f : Addr) (cdv : Value) (A : Around) (outer : List PySem.Env) (s : Shared) (H : Hp) (E : XK) (hr : Room n (A.deeper (envOfC "_law_pick" (defScope S__law_pick) s.heap.objs.size f cdv))) (hG : A.guards = some []) :
    PSs (cxOf CX0 P w K mg base N__law_pick "_law_pick" (defScope S__law_pick) f cdv A outer s H E).nox (defBody S__law_pick) (rdS K (fun _ => 0) F W0 P__law_pick) :=
  have nd := sc__law_pick.nd
  have hu := hu65 hr
  s_one (s_ret (w_ix hu (w_v 1) (c_call g.f__law_draw hr hG (by rfl) (a1 (w_v 0) (a1 (w_fn or_len on_len boot_len g.b_len (a1 (w_v 1) (a0))) (a0))))))
theorem k__law_is_count {F : Fns} {n : Nat} (g : G P w K mg base F n) (f : Addr) (cdv : Value) (A : Around) (outer : List PySem.Env) (s : Shared) (H : Hp) (E : XK) (hr : Room n (A.deeper (envOfC "_law_is_count" (defScope S__law_is_count) s.heap.objs.size f cdv))) (hG : A.guards = some []) :
    PSs (cxOf CX0 P w K mg base N__law_is_count "_law_is_count" (defScope S__law_is_count) f cdv A outer s H E).nox (defBody S__law_is_count) (rdS K (fun _ => 0) F W0 P__law_is_count) :=
  have nd := sc__law_is_count.nd
  have hu := hu65 hr
  s_one (s_ret (c_and (w_isi .int g.b_isinstance (pe_bltn (by rfl) g.b_int boot_int rfl) (w_v 0)) (c_and (c_not (w_isi .bool g.b_isinstance (pe_bltn (by rfl) g.b_bool boot_bool rfl) (w_v 0))) (c_and1 (w_cmp hu (w_v 0) (c_int))))))
theorem k__law_is_name {F : Fns} {n : Nat} (g : G P w K mg base F n) (f : Addr) (cdv : Value) (A : Around) (outer : List PySem.Env) (s : Shared) (H : Hp) (E : XK) (hr : Room n (A.deeper (envOfC "_law_is_name" (defScope S__law_is_name) s.heap.objs.size f cdv))) (hG : A.guards = some []) :
    PSs (cxOf CX0 P w K mg base N__law_is_name "_law_is_name" (defScope S__law_is_name) f cdv A outer s H E).nox (defBody S__law_is_name) (rdS K (fun _ => 0) F W0 P__law_is_name) :=
  have nd := sc__law_is_name.nd
  have hu := hu65 hr
  s_seq (s_asg (c_tup (a1 (c_str) (a1 (c_str) (a0)))) (g_tp rfl (gs_cons (g_nm nd (by rfl) (by first | exact Or.inl rfl | exact Or.inr rfl)) (gs_cons (g_nm nd (by rfl) (by first | exact Or.inl rfl | exact Or.inr rfl)) (gs_nil))))) (s_seq (s_if ((cw_or (ct_not (wt_tru (w_isi .str g.b_isinstance (pe_bltn (by rfl) g.b_str boot_str rfl) (w_v 0)))) (cw_or (ct_not (wt_chain hu (c_int) (w_fn or_len on_len boot_len g.b_len (a1 (w_v 0) (a0))) (c_int))) (cw_or (wt_cmp hu (w_ix hu (w_v 0) (c_int)) (w_v 1)) (cw_or1 (wt_cmp hu (c_sl (w_v 0) (co_none) (co_some (c_int))) (c_str)))))).pt) (s_one (s_ret (c_bl))) (s_nil)) (s_one (s_ret (w_fn (cr_all rfl) on_all boot_all g.b_all (a1 (c_lc rfl nd (ci_of (w_v 0)) (blkOk_by (own := [("sign", 3)]) (by rfl)) (by decide) (by rfl) (fun _ _ _ _ _ => t_nm nd (by rfl) (by first | exact Or.inl rfl | exact Or.inr rfl)) (fun _ _ _ _ _ => q_yes) (fun _ _ _ _ _ => w_cmp hu (w_v 3) (w_bin (w_v 1) (w_v 2)))) (a0))))))
theorem k__law_is_shape {F : Fns} {n : Nat} (g : G P w K mg base F n) (f : Addr) (cdv : Value) (A : Around) (outer : List PySem.Env) (s : Shared) (H : Hp) (E : XK) (hr : Room n (A.deeper (envOfC "_law_is_shape" (defScope S__law_is_shape) s.heap.objs.size f cdv))) (hG : A.guards = some []) :
    PSs (cxOf CX0 P w K mg base N__law_is_shape "_law_is_shape" (defScope S__law_is_shape) f cdv A outer s H E).nox (defBody S__law_is_shape) (rdS K (fun _ => 0) F W0 P__law_is_shape) :=
  have nd := sc__law_is_shape.nd
  have hu := hu65 hr
  s_seq (s_if (wt_tru (w_isi .tuple g.b_isinstance (pe_bltn (by rfl) g.b_tuple boot_tuple rfl) (w_v 0))) (s_one (s_ret (c_and (w_cmp hu (w_fn or_len on_len boot_len g.b_len (a1 (w_v 0) (a0))) (c_int)) (c_and (c_call g.f__law_is_name hr hG (by rfl) (a1 (w_ix hu (w_v 0) (c_int)) (a0))) (c_and (c_call g.f__law_is_count hr hG (by rfl) (a1 (w_ix hu (w_v 0) (c_int)) (a0))) (c_and1 (w_cmp hu (w_ix hu (w_v 0) (c_int)) (c_int)))))))) (s_nil)) (s_one (s_ret (c_and (w_isi .int g.b_isinstance (pe_bltn (by rfl) g.b_int boot_int rfl) (w_v 0)) (c_and (c_not (w_isi .bool g.b_isinstance (pe_bltn (by rfl) g.b_bool boot_bool rfl) (w_v 0))) (c_and1 (w_chain hu (c_neg (c_int)) (w_v 0) (c_int)))))))
theorem k__law_is_known {F : Fns} {n : Nat} (g : G P w K mg base F n) (f : Addr) (cdv : Value) (A : Around) (outer : List PySem.Env) (s : Shared) (H : Hp) (E : XK) (hr : Room n (A.deeper (envOfC "_law_is_known" (defScope S__law_is_known) s.heap.objs.size f cdv))) (hG : A.guards = some []) :
    PSs (cxOf CX0 P w K mg base N__law_is_known "_law_is_known" (defScope S__law_is_known) f cdv A outer s H E).nox (defBody S__law_is_known) (rdS K (fun _ => 0) F W0 P__law_is_known) :=
  have nd := sc__law_is_known.nd
  have hu := hu65 hr
  s_seq (s_if ((cw_or (ct_not (wt_tru (w_isi .tuple g.b_isinstance (pe_bltn (by rfl) g.b_tuple boot_tuple rfl) (w_v 0)))) (cw_or (wt_cmp hu (w_v 0) (c_tup (a0))) (cw_or1 (ct_not (wt_tru (w_fn (cr_all rfl) on_all boot_all g.b_all (a1 (c_lc rfl nd (ci_of (w_v 0)) (blkOk_by (own := [("one", 2)]) (by rfl)) (by decide) (by rfl) (fun _ _ _ _ _ => t_nm nd (by rfl) (by first | exact Or.inl rfl | exact Or.inr rfl)) (fun _ _ _ _ _ => q_yes) (fun _ _ _ _ _ => c_call g.f__law_is_count hr hG (by rfl) (a1 (w_v 2) (a0)))) (a0)))))))).pt) (s_one (s_ret (c_bl))) (s_nil)) (s_one (s_ret (w_fn (cr_any rfl) on_any boot_any g.b_any (a1 (c_lc rfl nd (ci_of (w_v 1)) (blkOk_by (own := [("path", 3), ("many", 4)]) (by rfl)) (by decide) (by rfl) (fun _ _ _ _ _ => t_tp rfl (t_cons (t_nm nd (by rfl) (by first | exact Or.inl rfl | exact Or.inr rfl)) (t_cons (t_nm nd (by rfl) (by first | exact Or.inl rfl | exact Or.inr rfl)) (t_nil)))) (fun _ _ _ _ _ => q_yes) (fun _ _ _ _ _ => c_and (w_cmp hu (w_v 3) (c_sl (w_v 0) (co_none) (co_some (c_neg (c_int))))) (c_and1 (w_cmp hu (w_ix hu (w_v 0) (c_neg (c_int))) (w_v 4))))) (a0)))))
theorem k__law_is_leaf {F : Fns} {n : Nat} (g : G P w K mg base F n) (f : Addr) (cdv : Value) (A : Around) (outer : List PySem.Env) (s : Shared) (H : Hp) (E : XK) (hr : Room n (A.deeper (envOfC "_law_is_leaf" (defScope S__law_is_leaf) s.heap.objs.size f cdv))) (hG : A.guards = some []) :
    PSs (cxOf CX0 P w K mg base N__law_is_leaf "_law_is_leaf" (defScope S__law_is_leaf) f cdv A outer s H E).nox (defBody S__law_is_leaf) (rdS K (fun _ => 0) F W0 P__law_is_leaf) :=
  have nd := sc__law_is_leaf.nd
  have hu := hu65 hr
  s_seq (s_if ((cw_or (wt_cmp hu (w_fn or_len on_len boot_len g.b_len (a1 (w_v 0) (a0))) (c_int)) (cw_or1 (ct_not (wt_tru (w_isi .tuple g.b_isinstance (pe_bltn (by rfl) g.b_tuple boot_tuple rfl) (w_ix hu (w_v 0) (c_int))))))).pt) (s_one (s_ret (c_bl))) (s_nil)) (s_seq (s_if (ct_not (wt_tru (w_fn (cr_all rfl) on_all boot_all g.b_all (a1 (c_lc rfl nd (ci_of (w_ix hu (w_v 0) (c_int))) (blkOk_by (own := [("one", 1)]) (by rfl)) (by decide) (by rfl) (fun _ _ _ _ _ => t_nm nd (by rfl) (by first | exact Or.inl rfl | exact Or.inr rfl)) (fun _ _ _ _ _ => q_yes) (fun _ _ _ _ _ => c_and (c_call g.f__law_is_count hr hG (by rfl) (a1 (w_v 1) (a0))) (c_and1 (w_cmp hu (w_v 1) (c_int))))) (a0))))) (s_one (s_ret (c_bl))) (s_nil)) (s_one (s_ret (w_cmp hu (w_ty call_list_of on_list boot_list g.b_list (a1 (w_ix hu (w_v 0) (c_int)) (a0))) (w_ssetT g.b_sorted g.b_set (a1 (w_ix hu (w_v 0) (c_int)) (a0)))))))
theorem k__law_is_tree {F : Fns} {n : Nat} (g : G P w K mg base F n) (f : Addr) (cdv : Value) (A : Around) (outer : List PySem.Env) (s : Shared) (H : Hp) (E : XK) (hr : Room n (A.deeper (envOfC "_law_is_tree" (defScope S__law_is_tree) s.heap.objs.size f cdv))) (hG : A.guards = some []) :
    PSs (cxOf CX0 P w K mg base N__law_is_tree "_law_is_tree" (defScope S__law_is_tree) f cdv A outer s H E).nox (defBody S__law_is_tree) (rdS K (fun _ => 0) F W0 P__law_is_tree) :=
  have nd := sc__law_is_tree.nd
  have hu := hu65 hr
  s_seq (s_if ((cw_or (ct_not (wt_tru (w_isi .tuple g.b_isinstance (pe_bltn (by rfl) g.b_tuple boot_tuple rfl) (w_v 0)))) (cw_or (wt_cmp hu (w_v 0) (c_tup (a0))) (cw_or1 (ct_not (wt_tru (w_isi .str g.b_isinstance (pe_bltn (by rfl) g.b_str boot_str rfl) (w_ix hu (w_v 0) (c_int)))))))).pt) (s_one (s_ret (c_bl))) (s_nil)) (s_seq (s_if (wt_cmp hu (w_ix hu (w_v 0) (c_int)) (c_str)) (s_one (s_ret (c_call g.f__law_is_leaf hr hG (by rfl) (a1 (w_v 0) (a0))))) (s_nil)) (s_seq (s_if ((cw_or (wt_cmp hu (w_ix hu (w_v 0) (c_int)) (c_tup (a1 (c_str) (a1 (c_str) (a0))))) (cw_or (wt_cmp hu (w_fn or_len on_len boot_len g.b_len (a1 (w_v 0) (a0))) (c_int)) (cw_or1 (ct_not (wt_tru (c_call g.f__law_is_known hr hG (by rfl) (a1 (w_ix hu (w_v 0) (c_int)) (a1 (w_v 1) (a0))))))))).pt) (s_one (s_ret (c_bl))) (s_nil)) (s_seq (s_set nd (by rfl) (by first | exact Or.inl rfl | exact Or.inr rfl) (w_v 1)) (s_seq (s_if (wt_cmp hu (w_ix hu (w_v 0) (c_int)) (c_str)) (s_one (s_if (ct_not (wt_tru (c_call g.f__law_is_known hr hG (by rfl) (a1 (w_ix hu (w_v 0) (c_int)) (a1 (w_v 1) (a0)))))) (s_one (s_ret (c_bl))) (s_nil))) (s_seq (s_if (ct_not (wt_tru (c_call g.f__law_is_shape hr hG (by rfl) (a1 (w_ix hu (w_v 0) (c_int)) (a0))))) (s_one (s_ret (c_bl))) (s_nil)) (s_one (s_if (wt_tru (w_isi .tuple g.b_isinstance (pe_bltn (by rfl) g.b_tuple boot_tuple rfl) (w_ix hu (w_v 0) (c_int)))) (s_one (s_set nd (by rfl) (by first | exact Or.inl rfl | exact Or.inr rfl) (w_bin (w_v 1) (c_lst (a1 (c_tup (a1 (w_ix hu (w_v 0) (c_int)) (a1 (w_ix hu (w_ix hu (w_v 0) (c_int)) (c_int)) (a0)))) (a0)))))) (s_nil))))) (s_one (s_ret (c_and (c_call g.f__law_is_tree hr hG (by rfl) (a1 (w_ix hu (w_v 0) (c_int)) (a1 (w_v 2) (a0)))) (c_and1 (c_call g.f__law_is_tree hr hG (by rfl) (a1 (w_ix hu (w_v 0) (c_int)) (a1 (w_v 1) (a0))))))))))))
theorem k__law_paths {F : Fns} {n : Nat} (g : G P w K mg base F n) (f : Addr) (cdv : Value) (A : Around) (outer : List PySem.Env) (s : Shared) (H : Hp) (E : XK) (hr : Room n (A.deeper (envOfC "_law_paths" (defScope S__law_paths) s.heap.objs.size f cdv))) (hG : A.guards = some []) :
    PSs (cxOf CX0 P w K mg base N__law_paths "_law_paths" (defScope S__law_paths) f cdv A outer s H E).nox (defBody S__law_paths) (rdS K (fun _ => 0) F W0 P__law_paths) :=
  have nd := sc__law_paths.nd
  have hu := hu65 hr
  s_seq (s_set nd (by rfl) (by first | exact Or.inl rfl | exact Or.inr rfl) (c_lst (a0))) (s_seq (s_for PassesOwn.never rfl (ci_of (w_v 0)) (g_tp rfl (gs_cons (g_nm nd (by rfl) (by first | exact Or.inl rfl | exact Or.inr rfl)) (gs_cons (g_nm nd (by rfl) (by first | exact Or.inl rfl | exact Or.inr rfl)) (gs_nil)))) (s_one (s_drop (c_extend (w_v 1) (c_lc rfl nd (w_r1 g.b_range (w_v 3)) (blkOk_by (own := [("at", 4)]) (by rfl)) (by decide) (by rfl) (fun _ _ _ _ _ => t_nm nd (by rfl) (by first | exact Or.inl rfl | exact Or.inr rfl)) (fun _ _ _ _ _ => q_yes) (fun _ _ _ _ _ => w_bin (w_v 2) (c_tup (a1 (w_v 4) (a0))))))))) (s_one (s_ret (w_v 1))))
theorem k__law_tree {F : Fns} {n : Nat} (g : G P w K mg base F n) (f : Addr) (cdv : Value) (A : Around) (outer : List PySem.Env) (s : Shared) (H : Hp) (E : XK) (hr : Room n (A.deeper (envOfC "_law_tree" (defScope S__law_tree) s.heap.objs.size f cdv))) (hG : A.guards = some []) :
    PSs (cxOf CX0 P w K mg base N__law_tree "_law_tree" (defScope S__law_tree) f cdv A outer s H E).nox (defBody S__law_tree) (rdS K (fun _ => 0) F W0 P__law_tree) :=
  have nd := sc__law_tree.nd
  have hu := hu65 hr
  s_seq (s_set nd (by rfl) (by first | exact Or.inl rfl | exact Or.inr rfl) (c_call g.f__law_paths hr hG (by rfl) (a1 (w_v 2) (a0)))) (s_seq (s_if ((cw_or (wt_cmp hu (w_v 1) (c_int)) (cw_or (wt_cmp hu (w_v 3) (c_lst (a0))) (cw_or1 (wt_cmp hu (c_call g.f__law_draw hr hG (by rfl) (a1 (w_v 0) (a1 (c_int) (a0)))) (c_int))))).pt) (s_one (s_ret (c_tup (a1 (c_str) (a1 (c_call g.f__law_pick hr hG (by rfl) (a1 (w_v 0) (a1 (c_lst (a1 (c_tup (a0)) (a1 (c_tup (a1 (c_int) (a0))) (a1 (c_tup (a1 (c_int) (a0))) (a1 (c_tup (a1 (c_int) (a1 (c_int) (a0)))) (a1 (c_tup (a1 (c_int) (a1 (c_int) (a0)))) (a0))))))) (a0)))) (a0)))))) (s_nil)) (s_seq (s_par rfl nd (by rfl) (by rfl) (by decide) (by rfl) (by rfl) (c_call g.f__law_pick hr hG (by rfl) (a1 (w_v 0) (a1 (w_v 3) (a0)))) (w_v 2) (by rfl)) (s_seq (s_if (wt_cmp hu (c_call g.f__law_draw hr hG (by rfl) (a1 (w_v 0) (a1 (c_int) (a0)))) (c_int)) (s_one (s_set nd (by rfl) (by first | exact Or.inl rfl | exact Or.inr rfl) (c_tup (a1 (c_str) (a1 (w_v 4) (a1 (c_call g.f__law_pick hr hG (by rfl) (a1 (w_v 0) (a1 (w_v 3) (a0)))) (a0))))))) (s_seq (s_set nd (by rfl) (by first | exact Or.inl rfl | exact Or.inr rfl) (c_call g.f__law_pick hr hG (by rfl) (a1 (w_v 0) (a1 (c_lst (a1 (c_int) (a1 (c_neg (c_int)) (a1 (c_int) (a1 (c_tup (a1 (c_str) (a1 (c_int) (a0)))) (a1 (c_tup (a1 (c_str) (a1 (c_int) (a0)))) (a1 (c_tup (a1 (c_str) (a1 (c_int) (a0)))) (a1 (c_tup (a1 (c_str) (a1 (c_int) (a0)))) (a0))))))))) (a0))))) (s_seq (s_set nd (by rfl) (by first | exact Or.inl rfl | exact Or.inr rfl) (c_tup (a1 (c_str) (a1 (w_v 4) (a1 (w_v 7) (a0)))))) (s_one (s_if (wt_tru (w_isi .tuple g.b_isinstance (pe_bltn (by rfl) g.b_tuple boot_tuple rfl) (w_v 7))) (s_one (s_set nd (by rfl) (by first | exact Or.inl rfl | exact Or.inr rfl) (w_bin (w_v 2) (c_lst (a1 (c_tup (a1 (w_v 4) (a1 (w_ix hu (w_v 7) (c_int)) (a0)))) (a0)))))) (s_nil)))))) (s_one (s_ret (w_bin (w_v 6) (c_tup (a1 (c_call g.f__law_tree hr hG (by rfl) (a1 (w_v 0) (a1 (w_bin (w_v 1) (c_int)) (a1 (w_v 5) (a0))))) (a1 (c_call g.f__law_tree hr hG (by rfl) (a1 (w_v 0) (a1 (w_bin (w_v 1) (c_int)) (a1 (w_v 2) (a0))))) (a0))))))))))
theorem k__law_long {F : Fns} {n : Nat} (g : G P w K mg base F n) (f : Addr) (cdv : Value) (A : Around) (outer : List PySem.Env) (s : Shared) (H : Hp) (E : XK) (hr : Room n (A.deeper (envOfC "_law_long" (defScope S__law_long) s.heap.objs.size f cdv))) (hG : A.guards = some []) :
    PSs (cxOf CX0 P w K mg base N__law_long "_law_long" (defScope S__law_long) f cdv A outer s H E).nox (defBody S__law_long) (rdS K (fun _ => 0) F W0 P__law_long) :=
  have nd := sc__law_long.nd
  have hu := hu65 hr
  s_seq (s_set nd (by rfl) (by first | exact Or.inl rfl | exact Or.inr rfl) (c_tup (a1 (c_str) (a1 (c_tup (a1 (c_call g.f__law_draw hr hG (by rfl) (a1 (w_v 0) (a1 (c_int) (a0)))) (a0))) (a0))))) (s_seq (s_for PassesOwn.never rfl (w_r1 g.b_range (w_bin (c_int) (c_call g.f__law_draw hr hG (by rfl) (a1 (w_v 0) (a1 (c_int) (a0)))))) (g_nm nd (by rfl) (by first | exact Or.inl rfl | exact Or.inr rfl)) (s_seq (s_par rfl nd (by rfl) (by rfl) (by decide) (by rfl) (by rfl) (c_tup (a1 (c_str) (a1 (c_call g.f__law_pick hr hG (by rfl) (a1 (w_v 0) (a1 (c_lst (a1 (c_tup (a0)) (a1 (c_tup (a1 (c_int) (a0))) (a1 (c_tup (a1 (c_int) (a1 (c_int) (a0)))) (a0))))) (a0)))) (a0)))) (c_tup (a1 (c_call g.f__law_draw hr hG (by rfl) (a1 (w_v 0) (a1 (w_v 1) (a0)))) (a0))) (by rfl)) (s_seq (s_set nd (by rfl) (by first | exact Or.inl rfl | exact Or.inr rfl) (c_tup (a1 (c_str) (a1 (w_v 5) (a1 (c_call g.f__law_pick hr hG (by rfl) (a1 (w_v 0) (a1 (c_lst (a1 (c_int) (a1 (c_int) (a1 (c_tup (a1 (c_str) (a1 (c_int) (a0)))) (a1 (c_tup (a1 (c_str) (a1 (c_int) (a0)))) (a0)))))) (a0)))) (a0)))))) (s_seq (s_if (wt_cmp hu (c_call g.f__law_draw hr hG (by rfl) (a1 (w_v 0) (a1 (c_int) (a0)))) (c_int)) (s_one (s_set nd (by rfl) (by first | exact Or.inl rfl | exact Or.inr rfl) (c_tup (a1 (c_str) (a1 (w_v 5) (a1 (c_tup (a1 (c_call g.f__law_draw hr hG (by rfl) (a1 (w_v 0) (a1 (w_v 1) (a0)))) (a0))) (a0))))))) (s_nil)) (s_one (s_set nd (by rfl) (by first | exact Or.inl rfl | exact Or.inr rfl) (w_bin (w_v 6) (c_if (wt_cmp hu (c_call g.f__law_draw hr hG (by rfl) (a1 (w_v 0) (a1 (c_int) (a0)))) (c_int)) (c_tup (a1 (w_v 4) (a1 (w_v 2) (a0)))) (c_tup (a1 (w_v 2) (a1 (w_v 4) (a0)))))))))))) (s_one (s_ret (w_v 2))))
theorem k__law_bent_leaf {F : Fns} {n : Nat} (g : G P w K mg base F n) (f : Addr) (cdv : Value) (A : Around) (outer : List PySem.Env) (s : Shared) (H : Hp) (E : XK) (hr : Room n (A.deeper (envOfC "_law_bent_leaf" (defScope S__law_bent_leaf) s.heap.objs.size f cdv))) (hG : A.guards = some []) :
    PSs (cxOf CX0 P w K mg base N__law_bent_leaf "_law_bent_leaf" (defScope S__law_bent_leaf) f cdv A outer s H E).nox (defBody S__law_bent_leaf) (rdS K (fun _ => 0) F W0 P__law_bent_leaf) :=
  have nd := sc__law_bent_leaf.nd
  have hu := hu65 hr
  s_seq (s_set nd (by rfl) (by first | exact Or.inl rfl | exact Or.inr rfl) (c_call g.f__law_draw hr hG (by rfl) (a1 (w_v 0) (a1 (c_int) (a0))))) (s_seq (s_if (wt_cmp hu (w_v 2) (c_int)) (s_one (s_ret (c_tup (a1 (c_str) (a1 (w_ty call_list_of on_list boot_list g.b_list (a1 (w_ix hu (w_v 1) (c_int)) (a0))) (a0)))))) (s_nil)) (s_seq (s_if (wt_cmp hu (w_v 2) (c_int)) (s_one (s_ret (c_tup (a1 (c_str) (a1 (w_bin (w_ix hu (w_v 1) (c_int)) (c_tup (a1 (c_int) (a0)))) (a0)))))) (s_nil)) (s_seq (s_if (wt_cmp hu (w_v 2) (c_int)) (s_one (s_ret (c_tup (a1 (c_str) (a1 (w_bin (w_ix hu (w_v 1) (c_int)) (w_ix hu (w_v 1) (c_int))) (a0)))))) (s_nil)) (s_seq (s_if (wt_cmp hu (w_v 2) (c_int)) (s_one (s_ret (c_tup (a1 (c_str) (a1 (c_rev (w_ix hu (w_v 1) (c_int))) (a0)))))) (s_nil)) (s_seq (s_if (wt_cmp hu (w_v 2) (c_int)) (s_one (s_ret (c_tup (a1 (c_str) (a1 (c_tup (a1 (c_bl) (a0))) (a0)))))) (s_nil)) (s_seq (s_if (wt_cmp hu (w_v 2) (c_int)) (s_one (s_ret (c_tup (a1 (c_str) (a1 (w_bin (c_tup (a1 (c_neg (c_int)) (a0))) (w_ix hu (w_v 1) (c_int))) (a0)))))) (s_nil)) (s_seq (s_if (wt_cmp hu (w_v 2) (c_int)) (s_one (s_ret (w_bin (w_v 1) (c_sl (w_v 1) (co_some (c_int)) (co_none))))) (s_nil)) (s_seq (s_if (wt_cmp hu (w_v 2) (c_int)) (s_one (s_ret (w_ty call_list_of on_list boot_list g.b_list (a1 (w_v 1) (a0))))) (s_nil)) (s_one (s_ret (c_call g.f__law_pick hr hG (by rfl) (a1 (w_v 0) (a1 (c_lst (a1 (c_non) (a1 (c_int) (a1 (c_tup (a0)) (a1 (c_tup (a1 (c_str) (a0))) (a1 (c_str) (a1 (c_tup (a1 (c_str) (a1 (c_tup (a0)) (a0)))) (a1 (c_tup (a1 (c_str) (a1 (c_non) (a0)))) (a0))))))))) (a0))))))))))))))
theorem k__law_bent_test {F : Fns} {n : Nat} (g : G P w K mg base F n) (f : Addr) (cdv : Value) (A : Around) (outer : List PySem.Env) (s : Shared) (H : Hp) (E : XK) (hr : Room n (A.deeper (envOfC "_law_bent_test" (defScope S__law_bent_test) s.heap.objs.size f cdv))) (hG : A.guards = some []) :
    PSs (cxOf CX0 P w K mg base N__law_bent_test "_law_bent_test" (defScope S__law_bent_test) f cdv A outer s H E).nox (defBody S__law_bent_test) (rdS K (fun _ => 0) F W0 P__law_bent_test) :=
  have nd := sc__law_bent_test.nd
  have hu := hu65 hr
  s_seq (s_set nd (by rfl) (by first | exact Or.inl rfl | exact Or.inr rfl) (c_call g.f__law_draw hr hG (by rfl) (a1 (w_v 0) (a1 (c_int) (a0))))) (s_seq (s_if (wt_cmp hu (w_v 2) (c_int)) (s_one (s_ret (w_bin (w_bin (c_sl (w_v 1) (co_none) (co_some (c_int))) (c_tup (a1 (w_bin (w_ix hu (w_v 1) (c_int)) (c_tup (a1 (c_int) (a0)))) (a0)))) (c_sl (w_v 1) (co_some (c_int)) (co_none))))) (s_nil)) (s_seq (s_if (wt_cmp hu (w_v 2) (c_int)) (s_one (s_ret (w_bin (w_bin (c_sl (w_v 1) (co_none) (co_some (c_int))) (c_tup (a1 (w_ty call_list_of on_list boot_list g.b_list (a1 (w_ix hu (w_v 1) (c_int)) (a0))) (a0)))) (c_sl (w_v 1) (co_some (c_int)) (co_none))))) (s_nil)) (s_seq (s_if (wt_cmp hu (w_v 2) (c_int)) (s_one (s_ret (w_bin (w_bin (c_sl (w_v 1) (co_none) (co_some (c_int))) (c_tup (a1 (c_sl (w_ix hu (w_v 1) (c_int)) (co_none) (co_some (c_neg (c_int)))) (a0)))) (c_sl (w_v 1) (co_some (c_int)) (co_none))))) (s_nil)) (s_seq (s_if (wt_cmp hu (w_v 2) (c_int)) (s_one (s_ret (w_bin (w_bin (c_sl (w_v 1) (co_none) (co_some (c_int))) (c_tup (a1 (w_bin (c_tup (a1 (c_bl) (a0))) (c_sl (w_ix hu (w_v 1) (c_int)) (co_some (c_int)) (co_none))) (a0)))) (c_sl (w_v 1) (co_some (c_int)) (co_none))))) (s_nil)) (s_seq (s_if (wt_cmp hu (w_v 2) (c_int)) (s_one (s_ret (w_bin (w_bin (c_sl (w_v 1) (co_none) (co_some (c_int))) (c_tup (a1 (w_bin (c_sl (w_ix hu (w_v 1) (c_int)) (co_none) (co_some (c_neg (c_int)))) (c_tup (a1 (w_bin (w_ix hu (w_ix hu (w_v 1) (c_int)) (c_neg (c_int))) (c_int)) (a0)))) (a0)))) (c_sl (w_v 1) (co_some (c_int)) (co_none))))) (s_nil)) (s_seq (s_if (wt_cmp hu (w_v 2) (c_int)) (s_one (s_ret (w_bin (c_tup (a1 (c_if (wt_cmp hu (w_ix hu (w_v 1) (c_int)) (c_str)) (c_str) (c_str)) (a0))) (c_sl (w_v 1) (co_some (c_int)) (co_none))))) (s_nil)) (s_seq (s_if (wt_cmp hu (w_v 2) (c_int)) (s_one (s_ret (w_bin (c_sl (w_v 1) (co_none) (co_some (c_int))) (c_tup (a1 (w_ix hu (w_v 1) (c_int)) (a1 (w_ix hu (w_v 1) (c_int)) (a0))))))) (s_nil)) (s_seq (s_if (wt_cmp hu (w_v 2) (c_int)) (s_one (s_ret (c_sl (w_v 1) (co_none) (co_some (c_int))))) (s_nil)) (s_seq (s_if (wt_cmp hu (w_v 2) (c_int)) (s_one (s_ret (w_ty call_list_of on_list boot_list g.b_list (a1 (w_v 1) (a0))))) (s_nil)) (s_seq (s_if (wt_cmp hu (w_v 2) (c_int)) (s_one (s_ret (w_bin (w_v 1) (c_tup (a1 (c_non) (a0)))))) (s_nil)) (s_seq (s_if (wt_cmp hu (w_v 2) (c_int)) (s_one (s_ret (c_if (wt_cmp hu (c_call g.f__law_draw hr hG (by rfl) (a1 (w_v 0) (a1 (c_int) (a0)))) (c_int)) (c_call g.f__law_pick hr hG (by rfl) (a1 (w_v 0) (a1 (c_lst (a1 (c_str) (a1 (c_non) (a1 (c_int) (a1 (c_bl) (a0)))))) (a0)))) (w_bin (c_tup (a1 (c_non) (a0))) (c_sl (w_v 1) (co_some (c_int)) (co_none)))))) (s_nil)) (s_seq (s_set nd (by rfl) (by first | exact Or.inl rfl | exact Or.inr rfl) (c_lst (a1 (c_int) (a1 (c_neg (c_int)) (a1 (c_bl) (a1 (c_non) (a1 (c_str) (a1 (c_tup (a1 (c_str) (a1 (c_int) (a0)))) (a1 (c_tup (a1 (c_str) (a1 (c_int) (a0)))) (a1 (c_tup (a1 (c_str) (a1 (c_int) (a0)))) (a1 (c_tup (a1 (c_str) (a1 (c_bl) (a0)))) (a1 (c_lst (a1 (c_str) (a1 (c_int) (a0)))) (a1 (c_tup (a1 (c_str) (a0))) (a1 (c_tup (a1 (c_int) (a0))) (a0))))))))))))))) (s_one (s_ret (w_bin (w_bin (c_sl (w_v 1) (co_none) (co_some (c_int))) (c_tup (a1 (c_call g.f__law_pick hr hG (by rfl) (a1 (w_v 0) (a1 (w_v 3) (a0)))) (a0)))) (c_sl (w_v 1) (co_some (c_int)) (co_none)))))))))))))))))
theorem k__law_bent {F : Fns} {n : Nat} (g : G P w K mg base F n) (f : Addr) (cdv : Value) (A : Around) (outer : List PySem.Env) (s : Shared) (H : Hp) (E : XK) (hr : Room n (A.deeper (envOfC "_law_bent" (defScope S__law_bent) s.heap.objs.size f cdv))) (hG : A.guards = some []) :
    PSs (cxOf CX0 P w K mg base N__law_bent "_law_bent" (defScope S__law_bent) f cdv A outer s H E).nox (defBody S__law_bent) (rdS K (fun _ => 0) F W0 P__law_bent) :=
  have nd := sc__law_bent.nd
  have hu := hu65 hr
  s_seq (s_if (wt_cmp hu (w_ix hu (w_v 1) (c_int)) (c_str)) (s_one (s_ret (c_call g.f__law_bent_leaf hr hG (by rfl) (a1 (w_v 0) (a1 (w_v 1) (a0)))))) (s_nil)) (s_seq (s_set nd (by rfl) (by first | exact Or.inl rfl | exact Or.inr rfl) (c_call g.f__law_draw hr hG (by rfl) (a1 (w_v 0) (a1 (c_int) (a0))))) (s_seq (s_if (wt_cmp hu (w_v 2) (c_int)) (s_one (s_ret (c_call g.f__law_bent_test hr hG (by rfl) (a1 (w_v 0) (a1 (w_v 1) (a0)))))) (s_nil)) (s_seq (s_if (wt_cmp hu (w_v 2) (c_int)) (s_one (s_ret (w_bin (c_sl (w_v 1) (co_none) (co_some (c_int))) (c_tup (a1 (c_call g.f__law_bent hr hG (by rfl) (a1 (w_v 0) (a1 (w_ix hu (w_v 1) (c_int)) (a0)))) (a1 (w_ix hu (w_v 1) (c_int)) (a0))))))) (s_nil)) (s_one (s_ret (w_bin (c_sl (w_v 1) (co_none) (co_some (c_int))) (c_tup (a1 (c_call g.f__law_bent hr hG (by rfl) (a1 (w_v 0) (a1 (w_ix hu (w_v 1) (c_int)) (a0)))) (a0)))))))))
theorem k__law_is_so {F : Fns} {n : Nat} (g : G P w K mg base F n) (f : Addr) (cdv : Value) (A : Around) (outer : List PySem.Env) (s : Shared) (H : Hp) (E : XK) (hr : Room n (A.deeper (envOfC "_law_is_so" (defScope S__law_is_so) s.heap.objs.size f cdv))) (hG : A.guards = some []) :
    PSs (cxOf CX0 P w K mg base N__law_is_so "_law_is_so" (defScope S__law_is_so) f cdv A outer s H E).nox (defBody S__law_is_so) (rdS K (fun _ => 0) F W0 P__law_is_so) :=
  have nd := sc__law_is_so.nd
  have hu := hu65 hr
  s_one (s_ret (c_call g.f__law_is_tree hr hG (by rfl) (a1 (w_v 1) (a1 (c_lst (a1 (c_tup (a1 (c_tup (a0)) (a1 (w_v 0) (a0)))) (a0))) (a0)))))
theorem k__law_right {F : Fns} {n : Nat} (g : G P w K mg base F n) (f : Addr) (cdv : Value) (A : Around) (outer : List PySem.Env) (s : Shared) (H : Hp) (E : XK) (hr : Room n (A.deeper (envOfC "_law_right" (defScope S__law_right) s.heap.objs.size f cdv))) (hG : A.guards = some []) :
    PSs (cxOf CX0 P w K mg base N__law_right "_law_right" (defScope S__law_right) f cdv A outer s H E).nox (defBody S__law_right) (rdS K (fun _ => 0) F W0 P__law_right) :=
  have nd := sc__law_right.nd
  have hu := hu65 hr
  s_seq (s_set nd (by rfl) (by first | exact Or.inl rfl | exact Or.inr rfl) (c_call g.f__law_pick hr hG (by rfl) (a1 (w_v 0) (a1 (c_lst (a1 (c_int) (a1 (c_int) (a1 (c_int) (a1 (c_int) (a1 (c_int) (a1 (c_int) (a1 (c_int) (a1 (c_int) (a1 (c_int) (a1 (c_int) (a0)))))))))))) (a0))))) (s_seq (s_set nd (by rfl) (by first | exact Or.inl rfl | exact Or.inr rfl) (c_call g.f__law_tree hr hG (by rfl) (a1 (w_v 0) (a1 (c_if (wt_cmp hu (c_call g.f__law_draw hr hG (by rfl) (a1 (w_v 0) (a1 (c_int) (a0)))) (c_int)) (c_int) (c_int)) (a1 (c_lst (a1 (c_tup (a1 (c_tup (a0)) (a1 (w_v 1) (a0)))) (a0))) (a0)))))) (s_seq (s_if ((cw_and (wt_cmp hu (w_v 1) (c_int)) (cw_and1 (wt_cmp hu (c_call g.f__law_draw hr hG (by rfl) (a1 (w_v 0) (a1 (c_int) (a0)))) (c_int)))).pt) (s_one (s_set nd (by rfl) (by first | exact Or.inl rfl | exact Or.inr rfl) (c_call g.f__law_long hr hG (by rfl) (a1 (w_v 0) (a1 (w_v 1) (a0)))))) (s_nil)) (s_seq (s_if ((cw_or (wt_cmp hu (c_call g.f_is_tree hr hG (by rfl) (a1 (w_v 1) (a1 (w_v 2) (a0)))) (c_bl)) (cw_or1 (wt_cmp hu (c_callKz g.f_is_tree 2 [1, 0] hr hG (by rfl) (fun _ _ F => Fun.kbinds (ps := ["many", "value"]) (ks := ["value", "many"]) F 0 2 [1, 0] rfl fun _ _ _ _ _ _ us ws h1 h2 => match us, ws, h1, h2 with | [], [b0, b1], _, _ => rfl) (ck_cons (w_v 2) (ck_cons (c_int) (ck_nil)))) (c_bl)))).pt) (s_one (s_ret (c_bl))) (s_nil)) (s_seq (s_if (wt_cmp hu (w_fn (call_reprD hG (hu152 hr)) on_repr boot_repr g.b_repr (a1 (c_call g.f_is_tree hr hG (by rfl) (a1 (c_int) (a1 (w_v 2) (a0)))) (a0))) (w_fn (call_reprD hG (hu152 hr)) on_repr boot_repr g.b_repr (a1 (c_call g.f__law_is_so hr hG (by rfl) (a1 (c_int) (a1 (w_v 2) (a0)))) (a0)))) (s_one (s_ret (c_bl))) (s_nil)) (s_seq (s_for PassesOwn.never rfl (w_r1 g.b_range (c_int)) (g_nm nd (by rfl) (by first | exact Or.inl rfl | exact Or.inr rfl)) (s_seq (s_set nd (by rfl) (by first | exact Or.inl rfl | exact Or.inr rfl) (c_call g.f__law_bent hr hG (by rfl) (a1 (w_v 0) (a1 (w_v 2) (a0))))) (s_seq (s_if (wt_cmp hu (w_fn (call_reprD hG (hu152 hr)) on_repr boot_repr g.b_repr (a1 (c_call g.f_is_tree hr hG (by rfl) (a1 (w_v 1) (a1 (w_v 4) (a0)))) (a0))) (w_fn (call_reprD hG (hu152 hr)) on_repr boot_repr g.b_repr (a1 (c_call g.f__law_is_so hr hG (by rfl) (a1 (w_v 1) (a1 (w_v 4) (a0)))) (a0)))) (s_one (s_ret (c_bl))) (s_nil)) (s_seq (s_set nd (by rfl) (by first | exact Or.inl rfl | exact Or.inr rfl) (c_call g.f__law_draw hr hG (by rfl) (a1 (w_v 0) (a1 (w_bin (w_v 1) (c_int)) (a0))))) (s_one (s_if (wt_cmp hu (w_fn (call_reprD hG (hu152 hr)) on_repr boot_repr g.b_repr (a1 (c_call g.f_is_tree hr hG (by rfl) (a1 (w_v 5) (a1 (w_v 4) (a0)))) (a0))) (w_fn (call_reprD hG (hu152 hr)) on_repr boot_repr g.b_repr (a1 (c_call g.f__law_is_so hr hG (by rfl) (a1 (w_v 5) (a1 (w_v 4) (a0)))) (a0)))) (s_one (s_ret (c_bl))) (s_nil))))))) (s_seq (s_for PassesOwn.never rfl (ci_of (c_lst (a1 (c_non) (a1 (c_int) (a1 (c_bl) (a1 (c_str) (a1 (c_lst (a0)) (a1 (c_dict0) (a1 (c_tup (a1 (c_str) (a1 (c_str) (a0)))) (a0)))))))))) (g_nm nd (by rfl) (by first | exact Or.inl rfl | exact Or.inr rfl)) (s_one (s_if (wt_cmp hu (c_call g.f_is_tree hr hG (by rfl) (a1 (w_v 1) (a1 (w_v 6) (a0)))) (c_bl)) (s_one (s_ret (c_bl))) (s_nil)))) (s_one (s_ret (c_bl)))))))))
theorem k_law {F : Fns} {n : Nat} (g : G P w K mg base F n) (f : Addr) (cdv : Value) (A : Around) (outer : List PySem.Env) (s : Shared) (H : Hp) (E : XK) (hr : Room n (A.deeper (envOfC "law" (defScope S_law) s.heap.objs.size f cdv))) (hG : A.guards = some []) :
    PSs (cxOf CX0 P w K mg base N_law "law" (defScope S_law) f cdv A outer s H E).nox (defBody S_law) (rdS K (fun _ => 0) F W0 P_law) :=
  have nd := sc_law.nd
  have hu := hu65 hr
  s_one (s_ret (c_callN1 g.f__law_right hr hG (by rfl) (c_call g.f__law_pot hr hG (by rfl) (a1 (w_v 0) (a1 (c_int) (a0))))))
theorem g_all (gc : GC mg)
    (h_is_integer : ∃ (f : Addr) (fd : FuncData), Fun K "is_integer" "is_integer" S_is_integer f fd ∧ mg "is_integer" = some (.ref f) ∧ Binds K fd ["value"] [])
    (h_is_count : ∃ (f : Addr) (fd : FuncData), Fun K "is_count" "is_count" S_is_count f fd ∧ mg "is_count" = some (.ref f) ∧ Binds K fd ["value"] [])
    (h_is_name : ∃ (f : Addr) (fd : FuncData), Fun K "is_name" "is_name" S_is_name f fd ∧ mg "is_name" = some (.ref f) ∧ Binds K fd ["value"] [])
    (h_is_variable : ∃ (f : Addr) (fd : FuncData), Fun K "is_variable" "is_variable" S_is_variable f fd ∧ mg "is_variable" = some (.ref f) ∧ Binds K fd ["value"] [])
    (h_is_head : ∃ (f : Addr) (fd : FuncData), Fun K "is_head" "is_head" S_is_head f fd ∧ mg "is_head" = some (.ref f) ∧ Binds K fd ["value"] [])
    (h_is_rest : ∃ (f : Addr) (fd : FuncData), Fun K "is_rest" "is_rest" S_is_rest f fd ∧ mg "is_rest" = some (.ref f) ∧ Binds K fd ["value"] [])
    (h_is_applied : ∃ (f : Addr) (fd : FuncData), Fun K "is_applied" "is_applied" S_is_applied f fd ∧ mg "is_applied" = some (.ref f) ∧ Binds K fd ["value"] [])
    (h_standings : ∃ (f : Addr) (fd : FuncData), Fun K "standings" "standings" S_standings f fd ∧ mg "standings" = some (.ref f) ∧ Binds K fd ["value"] [])
    (h_have_one_sort : ∃ (f : Addr) (fd : FuncData), Fun K "have_one_sort" "have_one_sort" S_have_one_sort f fd ∧ mg "have_one_sort" = some (.ref f) ∧ Binds K fd ["found"] [])
    (h_pieces : ∃ (f : Addr) (fd : FuncData), Fun K "pieces" "pieces" S_pieces f fd ∧ mg "pieces" = some (.ref f) ∧ Binds K fd ["term"] [])
    (h_numbers_of : ∃ (f : Addr) (fd : FuncData), Fun K "numbers_of" "numbers_of" S_numbers_of f fd ∧ mg "numbers_of" = some (.ref f) ∧ Binds K fd ["term"] [])
    (h_names_of : ∃ (f : Addr) (fd : FuncData), Fun K "names_of" "names_of" S_names_of f fd ∧ mg "names_of" = some (.ref f) ∧ Binds K fd ["term"] [])
    (h_is_term : ∃ (f : Addr) (fd : FuncData), Fun K "is_term" "is_term" S_is_term f fd ∧ mg "is_term" = some (.ref f) ∧ Binds K fd ["value"] [])
    (h_is_pattern : ∃ (f : Addr) (fd : FuncData), Fun K "is_pattern" "is_pattern" S_is_pattern f fd ∧ mg "is_pattern" = some (.ref f) ∧ Binds K fd ["value"] [])
    (h_is_leaf : ∃ (f : Addr) (fd : FuncData), Fun K "is_leaf" "is_leaf" S_is_leaf f fd ∧ mg "is_leaf" = some (.ref f) ∧ Binds K fd ["value"] [])
    (h_is_shape : ∃ (f : Addr) (fd : FuncData), Fun K "is_shape" "is_shape" S_is_shape f fd ∧ mg "is_shape" = some (.ref f) ∧ Binds K fd ["value"] [])
    (h_is_known_path : ∃ (f : Addr) (fd : FuncData), Fun K "is_known_path" "is_known_path" S_is_known_path f fd ∧ mg "is_known_path" = some (.ref f) ∧ Binds K fd ["value", "many", "known"] [])
    (h_is_test : ∃ (f : Addr) (fd : FuncData), Fun K "is_test" "is_test" S_is_test f fd ∧ mg "is_test" = some (.ref f) ∧ Binds K fd ["value", "many", "known"] [])
    (h_known_behind : ∃ (f : Addr) (fd : FuncData), Fun K "known_behind" "known_behind" S_known_behind f fd ∧ mg "known_behind" = some (.ref f) ∧ Binds K fd ["test", "known"] [])
    (h_is_tree_of : ∃ (f : Addr) (fd : FuncData), Fun K "is_tree_of" "is_tree_of" S_is_tree_of f fd ∧ mg "is_tree_of" = some (.ref f) ∧ Binds K fd ["many", "value"] [])
    (h_want_tree_count : ∃ (f : Addr) (fd : FuncData), Fun K "want_tree_count" "want_tree_count" S_want_tree_count f fd ∧ mg "want_tree_count" = some (.ref f) ∧ Binds K fd ["value"] [])
    (h_is_tree : ∃ (f : Addr) (fd : FuncData), Fun K "is_tree" "is_tree" S_is_tree f fd ∧ mg "is_tree" = some (.ref f) ∧ Binds K fd ["many", "value"] [])
    (h__law_pot : ∃ (f : Addr) (fd : FuncData), Fun K "_law_pot" "_law_pot" S__law_pot f fd ∧ mg "_law_pot" = some (.ref f) ∧ Binds K fd ["script", "k"] [])
    (h__law_draw : ∃ (f : Addr) (fd : FuncData), Fun K "_law_draw" "_law_draw" S__law_draw f fd ∧ mg "_law_draw" = some (.ref f) ∧ Binds K fd ["pot", "sides"] [])
    (h__law_pick : ∃ (f : Addr) (fd : FuncData), Fun K "_law_pick" "_law_pick" S__law_pick f fd ∧ mg "_law_pick" = some (.ref f) ∧ Binds K fd ["pot", "some"] [])
    (h__law_is_count : ∃ (f : Addr) (fd : FuncData), Fun K "_law_is_count" "_law_is_count" S__law_is_count f fd ∧ mg "_law_is_count" = some (.ref f) ∧ Binds K fd ["value"] [])
    (h__law_is_name : ∃ (f : Addr) (fd : FuncData), Fun K "_law_is_name" "_law_is_name" S__law_is_name f fd ∧ mg "_law_is_name" = some (.ref f) ∧ Binds K fd ["value"] [])
    (h__law_is_shape : ∃ (f : Addr) (fd : FuncData), Fun K "_law_is_shape" "_law_is_shape" S__law_is_shape f fd ∧ mg "_law_is_shape" = some (.ref f) ∧ Binds K fd ["value"] [])
    (h__law_is_known : ∃ (f : Addr) (fd : FuncData), Fun K "_law_is_known" "_law_is_known" S__law_is_known f fd ∧ mg "_law_is_known" = some (.ref f) ∧ Binds K fd ["value", "known"] [])
    (h__law_is_leaf : ∃ (f : Addr) (fd : FuncData), Fun K "_law_is_leaf" "_law_is_leaf" S__law_is_leaf f fd ∧ mg "_law_is_leaf" = some (.ref f) ∧ Binds K fd ["value"] [])
    (h__law_is_tree : ∃ (f : Addr) (fd : FuncData), Fun K "_law_is_tree" "_law_is_tree" S__law_is_tree f fd ∧ mg "_law_is_tree" = some (.ref f) ∧ Binds K fd ["value", "known"] [])
    (h__law_paths : ∃ (f : Addr) (fd : FuncData), Fun K "_law_paths" "_law_paths" S__law_paths f fd ∧ mg "_law_paths" = some (.ref f) ∧ Binds K fd ["known"] [])
    (h__law_tree : ∃ (f : Addr) (fd : FuncData), Fun K "_law_tree" "_law_tree" S__law_tree f fd ∧ mg "_law_tree" = some (.ref f) ∧ Binds K fd ["pot", "deep", "known"] [])
    (h__law_long : ∃ (f : Addr) (fd : FuncData), Fun K "_law_long" "_law_long" S__law_long f fd ∧ mg "_law_long" = some (.ref f) ∧ Binds K fd ["pot", "many"] [])
    (h__law_bent_leaf : ∃ (f : Addr) (fd : FuncData), Fun K "_law_bent_leaf" "_law_bent_leaf" S__law_bent_leaf f fd ∧ mg "_law_bent_leaf" = some (.ref f) ∧ Binds K fd ["pot", "leaf"] [])
    (h__law_bent_test : ∃ (f : Addr) (fd : FuncData), Fun K "_law_bent_test" "_law_bent_test" S__law_bent_test f fd ∧ mg "_law_bent_test" = some (.ref f) ∧ Binds K fd ["pot", "test"] [])
    (h__law_bent : ∃ (f : Addr) (fd : FuncData), Fun K "_law_bent" "_law_bent" S__law_bent f fd ∧ mg "_law_bent" = some (.ref f) ∧ Binds K fd ["pot", "tree"] [])
    (h__law_is_so : ∃ (f : Addr) (fd : FuncData), Fun K "_law_is_so" "_law_is_so" S__law_is_so f fd ∧ mg "_law_is_so" = some (.ref f) ∧ Binds K fd ["many", "value"] [])
    (h__law_right : ∃ (f : Addr) (fd : FuncData), Fun K "_law_right" "_law_right" S__law_right f fd ∧ mg "_law_right" = some (.ref f) ∧ Binds K fd ["pot"] [])
    (h_law : ∃ (f : Addr) (fd : FuncData), Fun K "law" "law" S_law f fd ∧ mg "law" = some (.ref f) ∧ Binds K fd ["script"] [])
    : ∀ n : Nat, G P w K mg base (run T n) n
  | 0 => { toGC := gc
           f_is_integer := let ⟨f, fd, F, m, b⟩ := h_is_integer; ⟨f, fd, F, m, b, fn_zero⟩
           f_is_count := let ⟨f, fd, F, m, b⟩ := h_is_count; ⟨f, fd, F, m, b, fn_zero⟩
           f_is_name := let ⟨f, fd, F, m, b⟩ := h_is_name; ⟨f, fd, F, m, b, fn_zero⟩
           f_is_variable := let ⟨f, fd, F, m, b⟩ := h_is_variable; ⟨f, fd, F, m, b, fn_zero⟩
           f_is_head := let ⟨f, fd, F, m, b⟩ := h_is_head; ⟨f, fd, F, m, b, fn_zero⟩
           f_is_rest := let ⟨f, fd, F, m, b⟩ := h_is_rest; ⟨f, fd, F, m, b, fn_zero⟩
           f_is_applied := let ⟨f, fd, F, m, b⟩ := h_is_applied; ⟨f, fd, F, m, b, fn_zero⟩
           f_standings := let ⟨f, fd, F, m, b⟩ := h_standings; ⟨f, fd, F, m, b, fn_zero⟩
           f_have_one_sort := let ⟨f, fd, F, m, b⟩ := h_have_one_sort; ⟨f, fd, F, m, b, fn_zero⟩
           f_pieces := let ⟨f, fd, F, m, b⟩ := h_pieces; ⟨f, fd, F, m, b, fn_zero⟩
           f_numbers_of := let ⟨f, fd, F, m, b⟩ := h_numbers_of; ⟨f, fd, F, m, b, fn_zero⟩
           f_names_of := let ⟨f, fd, F, m, b⟩ := h_names_of; ⟨f, fd, F, m, b, fn_zero⟩
           f_is_term := let ⟨f, fd, F, m, b⟩ := h_is_term; ⟨f, fd, F, m, b, fn_zero⟩
           f_is_pattern := let ⟨f, fd, F, m, b⟩ := h_is_pattern; ⟨f, fd, F, m, b, fn_zero⟩
           f_is_leaf := let ⟨f, fd, F, m, b⟩ := h_is_leaf; ⟨f, fd, F, m, b, fn_zero⟩
           f_is_shape := let ⟨f, fd, F, m, b⟩ := h_is_shape; ⟨f, fd, F, m, b, fn_zero⟩
           f_is_known_path := let ⟨f, fd, F, m, b⟩ := h_is_known_path; ⟨f, fd, F, m, b, fn_zero⟩
           f_is_test := let ⟨f, fd, F, m, b⟩ := h_is_test; ⟨f, fd, F, m, b, fn_zero⟩
           f_known_behind := let ⟨f, fd, F, m, b⟩ := h_known_behind; ⟨f, fd, F, m, b, fn_zero⟩
           f_is_tree_of := let ⟨f, fd, F, m, b⟩ := h_is_tree_of; ⟨f, fd, F, m, b, fn_zero⟩
           f_want_tree_count := let ⟨f, fd, F, m, b⟩ := h_want_tree_count; ⟨f, fd, F, m, b, fn_zero⟩
           f_is_tree := let ⟨f, fd, F, m, b⟩ := h_is_tree; ⟨f, fd, F, m, b, fn_zero⟩
           f__law_pot := let ⟨f, fd, F, m, b⟩ := h__law_pot; ⟨f, fd, F, m, b, fn_zero⟩
           f__law_draw := let ⟨f, fd, F, m, b⟩ := h__law_draw; ⟨f, fd, F, m, b, fn_zero⟩
           f__law_pick := let ⟨f, fd, F, m, b⟩ := h__law_pick; ⟨f, fd, F, m, b, fn_zero⟩
           f__law_is_count := let ⟨f, fd, F, m, b⟩ := h__law_is_count; ⟨f, fd, F, m, b, fn_zero⟩
           f__law_is_name := let ⟨f, fd, F, m, b⟩ := h__law_is_name; ⟨f, fd, F, m, b, fn_zero⟩
           f__law_is_shape := let ⟨f, fd, F, m, b⟩ := h__law_is_shape; ⟨f, fd, F, m, b, fn_zero⟩
           f__law_is_known := let ⟨f, fd, F, m, b⟩ := h__law_is_known; ⟨f, fd, F, m, b, fn_zero⟩
           f__law_is_leaf := let ⟨f, fd, F, m, b⟩ := h__law_is_leaf; ⟨f, fd, F, m, b, fn_zero⟩
           f__law_is_tree := let ⟨f, fd, F, m, b⟩ := h__law_is_tree; ⟨f, fd, F, m, b, fn_zero⟩
           f__law_paths := let ⟨f, fd, F, m, b⟩ := h__law_paths; ⟨f, fd, F, m, b, fn_zero⟩
           f__law_tree := let ⟨f, fd, F, m, b⟩ := h__law_tree; ⟨f, fd, F, m, b, fn_zero⟩
           f__law_long := let ⟨f, fd, F, m, b⟩ := h__law_long; ⟨f, fd, F, m, b, fn_zero⟩
           f__law_bent_leaf := let ⟨f, fd, F, m, b⟩ := h__law_bent_leaf; ⟨f, fd, F, m, b, fn_zero⟩
           f__law_bent_test := let ⟨f, fd, F, m, b⟩ := h__law_bent_test; ⟨f, fd, F, m, b, fn_zero⟩
           f__law_bent := let ⟨f, fd, F, m, b⟩ := h__law_bent; ⟨f, fd, F, m, b, fn_zero⟩
           f__law_is_so := let ⟨f, fd, F, m, b⟩ := h__law_is_so; ⟨f, fd, F, m, b, fn_zero⟩
           f__law_right := let ⟨f, fd, F, m, b⟩ := h__law_right; ⟨f, fd, F, m, b, fn_zero⟩
           f_law := let ⟨f, fd, F, m, b⟩ := h_law; ⟨f, fd, F, m, b, fn_zero⟩
         }
  | n + 1 =>
    have ih := g_all gc h_is_integer h_is_count h_is_name h_is_variable h_is_head h_is_rest h_is_applied h_standings h_have_one_sort h_pieces h_numbers_of h_names_of h_is_term h_is_pattern h_is_leaf h_is_shape h_is_known_path h_is_test h_known_behind h_is_tree_of h_want_tree_count h_is_tree h__law_pot h__law_draw h__law_pick h__law_is_count h__law_is_name h__law_is_shape h__law_is_known h__law_is_leaf h__law_is_tree h__law_paths h__law_tree h__law_long h__law_bent_leaf h__law_bent_test h__law_bent h__law_is_so h__law_right h_law n
    { toGC := gc
      f_is_integer := let ⟨f, fd, F, m, b⟩ := h_is_integer; ⟨f, fd, F, m, b, fn_rd F sc_is_integer rfl rfl fun cdv A outer s H E hr hG => k_is_integer ih f cdv A outer s H E hr hG⟩
      f_is_count := let ⟨f, fd, F, m, b⟩ := h_is_count; ⟨f, fd, F, m, b, fn_rd F sc_is_count rfl rfl fun cdv A outer s H E hr hG => k_is_count ih f cdv A outer s H E hr hG⟩
      f_is_name := let ⟨f, fd, F, m, b⟩ := h_is_name; ⟨f, fd, F, m, b, fn_rd F sc_is_name rfl rfl fun cdv A outer s H E hr hG => k_is_name ih f cdv A outer s H E hr hG⟩
      f_is_variable := let ⟨f, fd, F, m, b⟩ := h_is_variable; ⟨f, fd, F, m, b, fn_rd F sc_is_variable rfl rfl fun cdv A outer s H E hr hG => k_is_variable ih f cdv A outer s H E hr hG⟩
      f_is_head := let ⟨f, fd, F, m, b⟩ := h_is_head; ⟨f, fd, F, m, b, fn_rd F sc_is_head rfl rfl fun cdv A outer s H E hr hG => k_is_head ih f cdv A outer s H E hr hG⟩
      f_is_rest := let ⟨f, fd, F, m, b⟩ := h_is_rest; ⟨f, fd, F, m, b, fn_rd F sc_is_rest rfl rfl fun cdv A outer s H E hr hG => k_is_rest ih f cdv A outer s H E hr hG⟩
      f_is_applied := let ⟨f, fd, F, m, b⟩ := h_is_applied; ⟨f, fd, F, m, b, fn_rd F sc_is_applied rfl rfl fun cdv A outer s H E hr hG => k_is_applied ih f cdv A outer s H E hr hG⟩
      f_standings := let ⟨f, fd, F, m, b⟩ := h_standings; ⟨f, fd, F, m, b, fn_rd F sc_standings rfl rfl fun cdv A outer s H E hr hG => k_standings ih f cdv A outer s H E hr hG⟩
      f_have_one_sort := let ⟨f, fd, F, m, b⟩ := h_have_one_sort; ⟨f, fd, F, m, b, fn_rd F sc_have_one_sort rfl rfl fun cdv A outer s H E hr hG => k_have_one_sort ih f cdv A outer s H E hr hG⟩
      f_pieces := let ⟨f, fd, F, m, b⟩ := h_pieces; ⟨f, fd, F, m, b, fn_rd F sc_pieces rfl rfl fun cdv A outer s H E hr hG => k_pieces ih f cdv A outer s H E hr hG⟩
      f_numbers_of := let ⟨f, fd, F, m, b⟩ := h_numbers_of; ⟨f, fd, F, m, b, fn_rd F sc_numbers_of rfl rfl fun cdv A outer s H E hr hG => k_numbers_of ih f cdv A outer s H E hr hG⟩
      f_names_of := let ⟨f, fd, F, m, b⟩ := h_names_of; ⟨f, fd, F, m, b, fn_rd F sc_names_of rfl rfl fun cdv A outer s H E hr hG => k_names_of ih f cdv A outer s H E hr hG⟩
      f_is_term := let ⟨f, fd, F, m, b⟩ := h_is_term; ⟨f, fd, F, m, b, fn_rd F sc_is_term rfl rfl fun cdv A outer s H E hr hG => k_is_term ih f cdv A outer s H E hr hG⟩
      f_is_pattern := let ⟨f, fd, F, m, b⟩ := h_is_pattern; ⟨f, fd, F, m, b, fn_rd F sc_is_pattern rfl rfl fun cdv A outer s H E hr hG => k_is_pattern ih f cdv A outer s H E hr hG⟩
      f_is_leaf := let ⟨f, fd, F, m, b⟩ := h_is_leaf; ⟨f, fd, F, m, b, fn_rd F sc_is_leaf rfl rfl fun cdv A outer s H E hr hG => k_is_leaf ih f cdv A outer s H E hr hG⟩
      f_is_shape := let ⟨f, fd, F, m, b⟩ := h_is_shape; ⟨f, fd, F, m, b, fn_rd F sc_is_shape rfl rfl fun cdv A outer s H E hr hG => k_is_shape ih f cdv A outer s H E hr hG⟩
      f_is_known_path := let ⟨f, fd, F, m, b⟩ := h_is_known_path; ⟨f, fd, F, m, b, fn_rd F sc_is_known_path rfl rfl fun cdv A outer s H E hr hG => k_is_known_path ih f cdv A outer s H E hr hG⟩
      f_is_test := let ⟨f, fd, F, m, b⟩ := h_is_test; ⟨f, fd, F, m, b, fn_rd F sc_is_test rfl rfl fun cdv A outer s H E hr hG => k_is_test ih f cdv A outer s H E hr hG⟩
      f_known_behind := let ⟨f, fd, F, m, b⟩ := h_known_behind; ⟨f, fd, F, m, b, fn_rd F sc_known_behind rfl rfl fun cdv A outer s H E hr hG => k_known_behind ih f cdv A outer s H E hr hG⟩
      f_is_tree_of := let ⟨f, fd, F, m, b⟩ := h_is_tree_of; ⟨f, fd, F, m, b, fn_rd F sc_is_tree_of rfl rfl fun cdv A outer s H E hr hG => k_is_tree_of ih f cdv A outer s H E hr hG⟩
      f_want_tree_count := let ⟨f, fd, F, m, b⟩ := h_want_tree_count; ⟨f, fd, F, m, b, fn_rd F sc_want_tree_count rfl rfl fun cdv A outer s H E hr hG => k_want_tree_count ih f cdv A outer s H E hr hG⟩
      f_is_tree := let ⟨f, fd, F, m, b⟩ := h_is_tree; ⟨f, fd, F, m, b, fn_rd F sc_is_tree rfl rfl fun cdv A outer s H E hr hG => k_is_tree ih f cdv A outer s H E hr hG⟩
      f__law_pot := let ⟨f, fd, F, m, b⟩ := h__law_pot; ⟨f, fd, F, m, b, fn_rd F sc__law_pot rfl rfl fun cdv A outer s H E hr hG => k__law_pot ih f cdv A outer s H E hr hG⟩
      f__law_draw := let ⟨f, fd, F, m, b⟩ := h__law_draw; ⟨f, fd, F, m, b, fn_rd F sc__law_draw rfl rfl fun cdv A outer s H E hr hG => k__law_draw ih f cdv A outer s H E hr hG⟩
      f__law_pick := let ⟨f, fd, F, m, b⟩ := h__law_pick; ⟨f, fd, F, m, b, fn_rd F sc__law_pick rfl rfl fun cdv A outer s H E hr hG => k__law_pick ih f cdv A outer s H E hr hG⟩
      f__law_is_count := let ⟨f, fd, F, m, b⟩ := h__law_is_count; ⟨f, fd, F, m, b, fn_rd F sc__law_is_count rfl rfl fun cdv A outer s H E hr hG => k__law_is_count ih f cdv A outer s H E hr hG⟩
      f__law_is_name := let ⟨f, fd, F, m, b⟩ := h__law_is_name; ⟨f, fd, F, m, b, fn_rd F sc__law_is_name rfl rfl fun cdv A outer s H E hr hG => k__law_is_name ih f cdv A outer s H E hr hG⟩
      f__law_is_shape := let ⟨f, fd, F, m, b⟩ := h__law_is_shape; ⟨f, fd, F, m, b, fn_rd F sc__law_is_shape rfl rfl fun cdv A outer s H E hr hG => k__law_is_shape ih f cdv A outer s H E hr hG⟩
      f__law_is_known := let ⟨f, fd, F, m, b⟩ := h__law_is_known; ⟨f, fd, F, m, b, fn_rd F sc__law_is_known rfl rfl fun cdv A outer s H E hr hG => k__law_is_known ih f cdv A outer s H E hr hG⟩
      f__law_is_leaf := let ⟨f, fd, F, m, b⟩ := h__law_is_leaf; ⟨f, fd, F, m, b, fn_rd F sc__law_is_leaf rfl rfl fun cdv A outer s H E hr hG => k__law_is_leaf ih f cdv A outer s H E hr hG⟩
      f__law_is_tree := let ⟨f, fd, F, m, b⟩ := h__law_is_tree; ⟨f, fd, F, m, b, fn_rd F sc__law_is_tree rfl rfl fun cdv A outer s H E hr hG => k__law_is_tree ih f cdv A outer s H E hr hG⟩
      f__law_paths := let ⟨f, fd, F, m, b⟩ := h__law_paths; ⟨f, fd, F, m, b, fn_rd F sc__law_paths rfl rfl fun cdv A outer s H E hr hG => k__law_paths ih f cdv A outer s H E hr hG⟩
      f__law_tree := let ⟨f, fd, F, m, b⟩ := h__law_tree; ⟨f, fd, F, m, b, fn_rd F sc__law_tree rfl rfl fun cdv A outer s H E hr hG => k__law_tree ih f cdv A outer s H E hr hG⟩
      f__law_long := let ⟨f, fd, F, m, b⟩ := h__law_long; ⟨f, fd, F, m, b, fn_rd F sc__law_long rfl rfl fun cdv A outer s H E hr hG => k__law_long ih f cdv A outer s H E hr hG⟩
      f__law_bent_leaf := let ⟨f, fd, F, m, b⟩ := h__law_bent_leaf; ⟨f, fd, F, m, b, fn_rd F sc__law_bent_leaf rfl rfl fun cdv A outer s H E hr hG => k__law_bent_leaf ih f cdv A outer s H E hr hG⟩
      f__law_bent_test := let ⟨f, fd, F, m, b⟩ := h__law_bent_test; ⟨f, fd, F, m, b, fn_rd F sc__law_bent_test rfl rfl fun cdv A outer s H E hr hG => k__law_bent_test ih f cdv A outer s H E hr hG⟩
      f__law_bent := let ⟨f, fd, F, m, b⟩ := h__law_bent; ⟨f, fd, F, m, b, fn_rd F sc__law_bent rfl rfl fun cdv A outer s H E hr hG => k__law_bent ih f cdv A outer s H E hr hG⟩
      f__law_is_so := let ⟨f, fd, F, m, b⟩ := h__law_is_so; ⟨f, fd, F, m, b, fn_rd F sc__law_is_so rfl rfl fun cdv A outer s H E hr hG => k__law_is_so ih f cdv A outer s H E hr hG⟩
      f__law_right := let ⟨f, fd, F, m, b⟩ := h__law_right; ⟨f, fd, F, m, b, fn_rd F sc__law_right rfl rfl fun cdv A outer s H E hr hG => k__law_right ih f cdv A outer s H E hr hG⟩
      f_law := let ⟨f, fd, F, m, b⟩ := h_law; ⟨f, fd, F, m, b, fn_rd F sc_law rfl rfl fun cdv A outer s H E hr hG => k_law ih f cdv A outer s H E hr hG⟩
    }
def depth : Nat := 100
theorem all_mk {l : PySem.W.OpenLaw} {h : Heap} {fa : Addr} (X : K.In h) (G : h.Ns mainGlobals mg) (hfa : mg "law" = some (.ref fa))
    {f_is_integer : Addr} {od_is_integer an_is_integer : Option Addr} {sl_is_integer : Array (Option Value)} {oc_is_integer kV_is_integer dc_is_integer pm_is_integer cd_is_integer ct_is_integer : Value}
    (a_is_integer : PySem.W.nsIn K mainGlobals "is_integer" = some (some (.ref f_is_integer))) (l_is_integer : K.lookup f_is_integer = some ⟨oc_is_integer, od_is_integer, .func (PySem.W.fnOf "is_integer" "is_integer" (defArgs S_is_integer) (defBody S_is_integer) (defScope S_is_integer) .none kV_is_integer dc_is_integer pm_is_integer an_is_integer cd_is_integer ct_is_integer), sl_is_integer⟩) (e_is_integer : PySem.W.codeIn K cd_is_integer "is_integer" = true) (k_is_integer : PySem.W.keepIn K (.ref f_is_integer) = true)
    {f_is_count : Addr} {od_is_count an_is_count : Option Addr} {sl_is_count : Array (Option Value)} {oc_is_count kV_is_count dc_is_count pm_is_count cd_is_count ct_is_count : Value}
    (a_is_count : PySem.W.nsIn K mainGlobals "is_count" = some (some (.ref f_is_count))) (l_is_count : K.lookup f_is_count = some ⟨oc_is_count, od_is_count, .func (PySem.W.fnOf "is_count" "is_count" (defArgs S_is_count) (defBody S_is_count) (defScope S_is_count) .none kV_is_count dc_is_count pm_is_count an_is_count cd_is_count ct_is_count), sl_is_count⟩) (e_is_count : PySem.W.codeIn K cd_is_count "is_count" = true) (k_is_count : PySem.W.keepIn K (.ref f_is_count) = true)
    {f_is_name : Addr} {od_is_name an_is_name : Option Addr} {sl_is_name : Array (Option Value)} {oc_is_name kV_is_name dc_is_name pm_is_name cd_is_name ct_is_name : Value}
    (a_is_name : PySem.W.nsIn K mainGlobals "is_name" = some (some (.ref f_is_name))) (l_is_name : K.lookup f_is_name = some ⟨oc_is_name, od_is_name, .func (PySem.W.fnOf "is_name" "is_name" (defArgs S_is_name) (defBody S_is_name) (defScope S_is_name) .none kV_is_name dc_is_name pm_is_name an_is_name cd_is_name ct_is_name), sl_is_name⟩) (e_is_name : PySem.W.codeIn K cd_is_name "is_name" = true) (k_is_name : PySem.W.keepIn K (.ref f_is_name) = true)
    {f_is_variable : Addr} {od_is_variable an_is_variable : Option Addr} {sl_is_variable : Array (Option Value)} {oc_is_variable kV_is_variable dc_is_variable pm_is_variable cd_is_variable ct_is_variable : Value}
    (a_is_variable : PySem.W.nsIn K mainGlobals "is_variable" = some (some (.ref f_is_variable))) (l_is_variable : K.lookup f_is_variable = some ⟨oc_is_variable, od_is_variable, .func (PySem.W.fnOf "is_variable" "is_variable" (defArgs S_is_variable) (defBody S_is_variable) (defScope S_is_variable) .none kV_is_variable dc_is_variable pm_is_variable an_is_variable cd_is_variable ct_is_variable), sl_is_variable⟩) (e_is_variable : PySem.W.codeIn K cd_is_variable "is_variable" = true) (k_is_variable : PySem.W.keepIn K (.ref f_is_variable) = true)
    {f_is_head : Addr} {od_is_head an_is_head : Option Addr} {sl_is_head : Array (Option Value)} {oc_is_head kV_is_head dc_is_head pm_is_head cd_is_head ct_is_head : Value}
    (a_is_head : PySem.W.nsIn K mainGlobals "is_head" = some (some (.ref f_is_head))) (l_is_head : K.lookup f_is_head = some ⟨oc_is_head, od_is_head, .func (PySem.W.fnOf "is_head" "is_head" (defArgs S_is_head) (defBody S_is_head) (defScope S_is_head) .none kV_is_head dc_is_head pm_is_head an_is_head cd_is_head ct_is_head), sl_is_head⟩) (e_is_head : PySem.W.codeIn K cd_is_head "is_head" = true) (k_is_head : PySem.W.keepIn K (.ref f_is_head) = true)
    {f_is_rest : Addr} {od_is_rest an_is_rest : Option Addr} {sl_is_rest : Array (Option Value)} {oc_is_rest kV_is_rest dc_is_rest pm_is_rest cd_is_rest ct_is_rest : Value}
    (a_is_rest : PySem.W.nsIn K mainGlobals "is_rest" = some (some (.ref f_is_rest))) (l_is_rest : K.lookup f_is_rest = some ⟨oc_is_rest, od_is_rest, .func (PySem.W.fnOf "is_rest" "is_rest" (defArgs S_is_rest) (defBody S_is_rest) (defScope S_is_rest) .none kV_is_rest dc_is_rest pm_is_rest an_is_rest cd_is_rest ct_is_rest), sl_is_rest⟩) (e_is_rest : PySem.W.codeIn K cd_is_rest "is_rest" = true) (k_is_rest : PySem.W.keepIn K (.ref f_is_rest) = true)
    {f_is_applied : Addr} {od_is_applied an_is_applied : Option Addr} {sl_is_applied : Array (Option Value)} {oc_is_applied kV_is_applied dc_is_applied pm_is_applied cd_is_applied ct_is_applied : Value}
    (a_is_applied : PySem.W.nsIn K mainGlobals "is_applied" = some (some (.ref f_is_applied))) (l_is_applied : K.lookup f_is_applied = some ⟨oc_is_applied, od_is_applied, .func (PySem.W.fnOf "is_applied" "is_applied" (defArgs S_is_applied) (defBody S_is_applied) (defScope S_is_applied) .none kV_is_applied dc_is_applied pm_is_applied an_is_applied cd_is_applied ct_is_applied), sl_is_applied⟩) (e_is_applied : PySem.W.codeIn K cd_is_applied "is_applied" = true) (k_is_applied : PySem.W.keepIn K (.ref f_is_applied) = true)
    {f_standings : Addr} {od_standings an_standings : Option Addr} {sl_standings : Array (Option Value)} {oc_standings kV_standings dc_standings pm_standings cd_standings ct_standings : Value}
    (a_standings : PySem.W.nsIn K mainGlobals "standings" = some (some (.ref f_standings))) (l_standings : K.lookup f_standings = some ⟨oc_standings, od_standings, .func (PySem.W.fnOf "standings" "standings" (defArgs S_standings) (defBody S_standings) (defScope S_standings) .none kV_standings dc_standings pm_standings an_standings cd_standings ct_standings), sl_standings⟩) (e_standings : PySem.W.codeIn K cd_standings "standings" = true) (k_standings : PySem.W.keepIn K (.ref f_standings) = true)
    {f_have_one_sort : Addr} {od_have_one_sort an_have_one_sort : Option Addr} {sl_have_one_sort : Array (Option Value)} {oc_have_one_sort kV_have_one_sort dc_have_one_sort pm_have_one_sort cd_have_one_sort ct_have_one_sort : Value}
    (a_have_one_sort : PySem.W.nsIn K mainGlobals "have_one_sort" = some (some (.ref f_have_one_sort))) (l_have_one_sort : K.lookup f_have_one_sort = some ⟨oc_have_one_sort, od_have_one_sort, .func (PySem.W.fnOf "have_one_sort" "have_one_sort" (defArgs S_have_one_sort) (defBody S_have_one_sort) (defScope S_have_one_sort) .none kV_have_one_sort dc_have_one_sort pm_have_one_sort an_have_one_sort cd_have_one_sort ct_have_one_sort), sl_have_one_sort⟩) (e_have_one_sort : PySem.W.codeIn K cd_have_one_sort "have_one_sort" = true) (k_have_one_sort : PySem.W.keepIn K (.ref f_have_one_sort) = true)
    {f_pieces : Addr} {od_pieces an_pieces : Option Addr} {sl_pieces : Array (Option Value)} {oc_pieces kV_pieces dc_pieces pm_pieces cd_pieces ct_pieces : Value}
    (a_pieces : PySem.W.nsIn K mainGlobals "pieces" = some (some (.ref f_pieces))) (l_pieces : K.lookup f_pieces = some ⟨oc_pieces, od_pieces, .func (PySem.W.fnOf "pieces" "pieces" (defArgs S_pieces) (defBody S_pieces) (defScope S_pieces) .none kV_pieces dc_pieces pm_pieces an_pieces cd_pieces ct_pieces), sl_pieces⟩) (e_pieces : PySem.W.codeIn K cd_pieces "pieces" = true) (k_pieces : PySem.W.keepIn K (.ref f_pieces) = true)
    {f_numbers_of : Addr} {od_numbers_of an_numbers_of : Option Addr} {sl_numbers_of : Array (Option Value)} {oc_numbers_of kV_numbers_of dc_numbers_of pm_numbers_of cd_numbers_of ct_numbers_of : Value}
    (a_numbers_of : PySem.W.nsIn K mainGlobals "numbers_of" = some (some (.ref f_numbers_of))) (l_numbers_of : K.lookup f_numbers_of = some ⟨oc_numbers_of, od_numbers_of, .func (PySem.W.fnOf "numbers_of" "numbers_of" (defArgs S_numbers_of) (defBody S_numbers_of) (defScope S_numbers_of) .none kV_numbers_of dc_numbers_of pm_numbers_of an_numbers_of cd_numbers_of ct_numbers_of), sl_numbers_of⟩) (e_numbers_of : PySem.W.codeIn K cd_numbers_of "numbers_of" = true) (k_numbers_of : PySem.W.keepIn K (.ref f_numbers_of) = true)
    {f_names_of : Addr} {od_names_of an_names_of : Option Addr} {sl_names_of : Array (Option Value)} {oc_names_of kV_names_of dc_names_of pm_names_of cd_names_of ct_names_of : Value}
    (a_names_of : PySem.W.nsIn K mainGlobals "names_of" = some (some (.ref f_names_of))) (l_names_of : K.lookup f_names_of = some ⟨oc_names_of, od_names_of, .func (PySem.W.fnOf "names_of" "names_of" (defArgs S_names_of) (defBody S_names_of) (defScope S_names_of) .none kV_names_of dc_names_of pm_names_of an_names_of cd_names_of ct_names_of), sl_names_of⟩) (e_names_of : PySem.W.codeIn K cd_names_of "names_of" = true) (k_names_of : PySem.W.keepIn K (.ref f_names_of) = true)
    {f_is_term : Addr} {od_is_term an_is_term : Option Addr} {sl_is_term : Array (Option Value)} {oc_is_term kV_is_term dc_is_term pm_is_term cd_is_term ct_is_term : Value}
    (a_is_term : PySem.W.nsIn K mainGlobals "is_term" = some (some (.ref f_is_term))) (l_is_term : K.lookup f_is_term = some ⟨oc_is_term, od_is_term, .func (PySem.W.fnOf "is_term" "is_term" (defArgs S_is_term) (defBody S_is_term) (defScope S_is_term) .none kV_is_term dc_is_term pm_is_term an_is_term cd_is_term ct_is_term), sl_is_term⟩) (e_is_term : PySem.W.codeIn K cd_is_term "is_term" = true) (k_is_term : PySem.W.keepIn K (.ref f_is_term) = true)
    {f_is_pattern : Addr} {od_is_pattern an_is_pattern : Option Addr} {sl_is_pattern : Array (Option Value)} {oc_is_pattern kV_is_pattern dc_is_pattern pm_is_pattern cd_is_pattern ct_is_pattern : Value}
    (a_is_pattern : PySem.W.nsIn K mainGlobals "is_pattern" = some (some (.ref f_is_pattern))) (l_is_pattern : K.lookup f_is_pattern = some ⟨oc_is_pattern, od_is_pattern, .func (PySem.W.fnOf "is_pattern" "is_pattern" (defArgs S_is_pattern) (defBody S_is_pattern) (defScope S_is_pattern) .none kV_is_pattern dc_is_pattern pm_is_pattern an_is_pattern cd_is_pattern ct_is_pattern), sl_is_pattern⟩) (e_is_pattern : PySem.W.codeIn K cd_is_pattern "is_pattern" = true) (k_is_pattern : PySem.W.keepIn K (.ref f_is_pattern) = true)
    {f_is_leaf : Addr} {od_is_leaf an_is_leaf : Option Addr} {sl_is_leaf : Array (Option Value)} {oc_is_leaf kV_is_leaf dc_is_leaf pm_is_leaf cd_is_leaf ct_is_leaf : Value}
    (a_is_leaf : PySem.W.nsIn K mainGlobals "is_leaf" = some (some (.ref f_is_leaf))) (l_is_leaf : K.lookup f_is_leaf = some ⟨oc_is_leaf, od_is_leaf, .func (PySem.W.fnOf "is_leaf" "is_leaf" (defArgs S_is_leaf) (defBody S_is_leaf) (defScope S_is_leaf) .none kV_is_leaf dc_is_leaf pm_is_leaf an_is_leaf cd_is_leaf ct_is_leaf), sl_is_leaf⟩) (e_is_leaf : PySem.W.codeIn K cd_is_leaf "is_leaf" = true) (k_is_leaf : PySem.W.keepIn K (.ref f_is_leaf) = true)
    {f_is_shape : Addr} {od_is_shape an_is_shape : Option Addr} {sl_is_shape : Array (Option Value)} {oc_is_shape kV_is_shape dc_is_shape pm_is_shape cd_is_shape ct_is_shape : Value}
    (a_is_shape : PySem.W.nsIn K mainGlobals "is_shape" = some (some (.ref f_is_shape))) (l_is_shape : K.lookup f_is_shape = some ⟨oc_is_shape, od_is_shape, .func (PySem.W.fnOf "is_shape" "is_shape" (defArgs S_is_shape) (defBody S_is_shape) (defScope S_is_shape) .none kV_is_shape dc_is_shape pm_is_shape an_is_shape cd_is_shape ct_is_shape), sl_is_shape⟩) (e_is_shape : PySem.W.codeIn K cd_is_shape "is_shape" = true) (k_is_shape : PySem.W.keepIn K (.ref f_is_shape) = true)
    {f_is_known_path : Addr} {od_is_known_path an_is_known_path : Option Addr} {sl_is_known_path : Array (Option Value)} {oc_is_known_path kV_is_known_path dc_is_known_path pm_is_known_path cd_is_known_path ct_is_known_path : Value}
    (a_is_known_path : PySem.W.nsIn K mainGlobals "is_known_path" = some (some (.ref f_is_known_path))) (l_is_known_path : K.lookup f_is_known_path = some ⟨oc_is_known_path, od_is_known_path, .func (PySem.W.fnOf "is_known_path" "is_known_path" (defArgs S_is_known_path) (defBody S_is_known_path) (defScope S_is_known_path) .none kV_is_known_path dc_is_known_path pm_is_known_path an_is_known_path cd_is_known_path ct_is_known_path), sl_is_known_path⟩) (e_is_known_path : PySem.W.codeIn K cd_is_known_path "is_known_path" = true) (k_is_known_path : PySem.W.keepIn K (.ref f_is_known_path) = true)
    {f_is_test : Addr} {od_is_test an_is_test : Option Addr} {sl_is_test : Array (Option Value)} {oc_is_test kV_is_test dc_is_test pm_is_test cd_is_test ct_is_test : Value}
    (a_is_test : PySem.W.nsIn K mainGlobals "is_test" = some (some (.ref f_is_test))) (l_is_test : K.lookup f_is_test = some ⟨oc_is_test, od_is_test, .func (PySem.W.fnOf "is_test" "is_test" (defArgs S_is_test) (defBody S_is_test) (defScope S_is_test) .none kV_is_test dc_is_test pm_is_test an_is_test cd_is_test ct_is_test), sl_is_test⟩) (e_is_test : PySem.W.codeIn K cd_is_test "is_test" = true) (k_is_test : PySem.W.keepIn K (.ref f_is_test) = true)
    {f_known_behind : Addr} {od_known_behind an_known_behind : Option Addr} {sl_known_behind : Array (Option Value)} {oc_known_behind kV_known_behind dc_known_behind pm_known_behind cd_known_behind ct_known_behind : Value}
    (a_known_behind : PySem.W.nsIn K mainGlobals "known_behind" = some (some (.ref f_known_behind))) (l_known_behind : K.lookup f_known_behind = some ⟨oc_known_behind, od_known_behind, .func (PySem.W.fnOf "known_behind" "known_behind" (defArgs S_known_behind) (defBody S_known_behind) (defScope S_known_behind) .none kV_known_behind dc_known_behind pm_known_behind an_known_behind cd_known_behind ct_known_behind), sl_known_behind⟩) (e_known_behind : PySem.W.codeIn K cd_known_behind "known_behind" = true) (k_known_behind : PySem.W.keepIn K (.ref f_known_behind) = true)
    {f_is_tree_of : Addr} {od_is_tree_of an_is_tree_of : Option Addr} {sl_is_tree_of : Array (Option Value)} {oc_is_tree_of kV_is_tree_of dc_is_tree_of pm_is_tree_of cd_is_tree_of ct_is_tree_of : Value}
    (a_is_tree_of : PySem.W.nsIn K mainGlobals "is_tree_of" = some (some (.ref f_is_tree_of))) (l_is_tree_of : K.lookup f_is_tree_of = some ⟨oc_is_tree_of, od_is_tree_of, .func (PySem.W.fnOf "is_tree_of" "is_tree_of" (defArgs S_is_tree_of) (defBody S_is_tree_of) (defScope S_is_tree_of) .none kV_is_tree_of dc_is_tree_of pm_is_tree_of an_is_tree_of cd_is_tree_of ct_is_tree_of), sl_is_tree_of⟩) (e_is_tree_of : PySem.W.codeIn K cd_is_tree_of "is_tree_of" = true) (k_is_tree_of : PySem.W.keepIn K (.ref f_is_tree_of) = true)
    {f_want_tree_count : Addr} {od_want_tree_count an_want_tree_count : Option Addr} {sl_want_tree_count : Array (Option Value)} {oc_want_tree_count kV_want_tree_count dc_want_tree_count pm_want_tree_count cd_want_tree_count ct_want_tree_count : Value}
    (a_want_tree_count : PySem.W.nsIn K mainGlobals "want_tree_count" = some (some (.ref f_want_tree_count))) (l_want_tree_count : K.lookup f_want_tree_count = some ⟨oc_want_tree_count, od_want_tree_count, .func (PySem.W.fnOf "want_tree_count" "want_tree_count" (defArgs S_want_tree_count) (defBody S_want_tree_count) (defScope S_want_tree_count) .none kV_want_tree_count dc_want_tree_count pm_want_tree_count an_want_tree_count cd_want_tree_count ct_want_tree_count), sl_want_tree_count⟩) (e_want_tree_count : PySem.W.codeIn K cd_want_tree_count "want_tree_count" = true) (k_want_tree_count : PySem.W.keepIn K (.ref f_want_tree_count) = true)
    {f_is_tree : Addr} {od_is_tree an_is_tree : Option Addr} {sl_is_tree : Array (Option Value)} {oc_is_tree kV_is_tree dc_is_tree pm_is_tree cd_is_tree ct_is_tree : Value}
    (a_is_tree : PySem.W.nsIn K mainGlobals "is_tree" = some (some (.ref f_is_tree))) (l_is_tree : K.lookup f_is_tree = some ⟨oc_is_tree, od_is_tree, .func (PySem.W.fnOf "is_tree" "is_tree" (defArgs S_is_tree) (defBody S_is_tree) (defScope S_is_tree) .none kV_is_tree dc_is_tree pm_is_tree an_is_tree cd_is_tree ct_is_tree), sl_is_tree⟩) (e_is_tree : PySem.W.codeIn K cd_is_tree "is_tree" = true) (k_is_tree : PySem.W.keepIn K (.ref f_is_tree) = true)
    {f__law_pot : Addr} {od__law_pot an__law_pot : Option Addr} {sl__law_pot : Array (Option Value)} {oc__law_pot kV__law_pot dc__law_pot pm__law_pot cd__law_pot ct__law_pot : Value}
    (a__law_pot : PySem.W.nsIn K mainGlobals "_law_pot" = some (some (.ref f__law_pot))) (l__law_pot : K.lookup f__law_pot = some ⟨oc__law_pot, od__law_pot, .func (PySem.W.fnOf "_law_pot" "_law_pot" (defArgs S__law_pot) (defBody S__law_pot) (defScope S__law_pot) .none kV__law_pot dc__law_pot pm__law_pot an__law_pot cd__law_pot ct__law_pot), sl__law_pot⟩) (e__law_pot : PySem.W.codeIn K cd__law_pot "_law_pot" = true) (k__law_pot : PySem.W.keepIn K (.ref f__law_pot) = true)
    {f__law_draw : Addr} {od__law_draw an__law_draw : Option Addr} {sl__law_draw : Array (Option Value)} {oc__law_draw kV__law_draw dc__law_draw pm__law_draw cd__law_draw ct__law_draw : Value}
    (a__law_draw : PySem.W.nsIn K mainGlobals "_law_draw" = some (some (.ref f__law_draw))) (l__law_draw : K.lookup f__law_draw = some ⟨oc__law_draw, od__law_draw, .func (PySem.W.fnOf "_law_draw" "_law_draw" (defArgs S__law_draw) (defBody S__law_draw) (defScope S__law_draw) .none kV__law_draw dc__law_draw pm__law_draw an__law_draw cd__law_draw ct__law_draw), sl__law_draw⟩) (e__law_draw : PySem.W.codeIn K cd__law_draw "_law_draw" = true) (k__law_draw : PySem.W.keepIn K (.ref f__law_draw) = true)
    {f__law_pick : Addr} {od__law_pick an__law_pick : Option Addr} {sl__law_pick : Array (Option Value)} {oc__law_pick kV__law_pick dc__law_pick pm__law_pick cd__law_pick ct__law_pick : Value}
    (a__law_pick : PySem.W.nsIn K mainGlobals "_law_pick" = some (some (.ref f__law_pick))) (l__law_pick : K.lookup f__law_pick = some ⟨oc__law_pick, od__law_pick, .func (PySem.W.fnOf "_law_pick" "_law_pick" (defArgs S__law_pick) (defBody S__law_pick) (defScope S__law_pick) .none kV__law_pick dc__law_pick pm__law_pick an__law_pick cd__law_pick ct__law_pick), sl__law_pick⟩) (e__law_pick : PySem.W.codeIn K cd__law_pick "_law_pick" = true) (k__law_pick : PySem.W.keepIn K (.ref f__law_pick) = true)
    {f__law_is_count : Addr} {od__law_is_count an__law_is_count : Option Addr} {sl__law_is_count : Array (Option Value)} {oc__law_is_count kV__law_is_count dc__law_is_count pm__law_is_count cd__law_is_count ct__law_is_count : Value}
    (a__law_is_count : PySem.W.nsIn K mainGlobals "_law_is_count" = some (some (.ref f__law_is_count))) (l__law_is_count : K.lookup f__law_is_count = some ⟨oc__law_is_count, od__law_is_count, .func (PySem.W.fnOf "_law_is_count" "_law_is_count" (defArgs S__law_is_count) (defBody S__law_is_count) (defScope S__law_is_count) .none kV__law_is_count dc__law_is_count pm__law_is_count an__law_is_count cd__law_is_count ct__law_is_count), sl__law_is_count⟩) (e__law_is_count : PySem.W.codeIn K cd__law_is_count "_law_is_count" = true) (k__law_is_count : PySem.W.keepIn K (.ref f__law_is_count) = true)
    {f__law_is_name : Addr} {od__law_is_name an__law_is_name : Option Addr} {sl__law_is_name : Array (Option Value)} {oc__law_is_name kV__law_is_name dc__law_is_name pm__law_is_name cd__law_is_name ct__law_is_name : Value}
    (a__law_is_name : PySem.W.nsIn K mainGlobals "_law_is_name" = some (some (.ref f__law_is_name))) (l__law_is_name : K.lookup f__law_is_name = some ⟨oc__law_is_name, od__law_is_name, .func (PySem.W.fnOf "_law_is_name" "_law_is_name" (defArgs S__law_is_name) (defBody S__law_is_name) (defScope S__law_is_name) .none kV__law_is_name dc__law_is_name pm__law_is_name an__law_is_name cd__law_is_name ct__law_is_name), sl__law_is_name⟩) (e__law_is_name : PySem.W.codeIn K cd__law_is_name "_law_is_name" = true) (k__law_is_name : PySem.W.keepIn K (.ref f__law_is_name) = true)
    {f__law_is_shape : Addr} {od__law_is_shape an__law_is_shape : Option Addr} {sl__law_is_shape : Array (Option Value)} {oc__law_is_shape kV__law_is_shape dc__law_is_shape pm__law_is_shape cd__law_is_shape ct__law_is_shape : Value}
    (a__law_is_shape : PySem.W.nsIn K mainGlobals "_law_is_shape" = some (some (.ref f__law_is_shape))) (l__law_is_shape : K.lookup f__law_is_shape = some ⟨oc__law_is_shape, od__law_is_shape, .func (PySem.W.fnOf "_law_is_shape" "_law_is_shape" (defArgs S__law_is_shape) (defBody S__law_is_shape) (defScope S__law_is_shape) .none kV__law_is_shape dc__law_is_shape pm__law_is_shape an__law_is_shape cd__law_is_shape ct__law_is_shape), sl__law_is_shape⟩) (e__law_is_shape : PySem.W.codeIn K cd__law_is_shape "_law_is_shape" = true) (k__law_is_shape : PySem.W.keepIn K (.ref f__law_is_shape) = true)
    {f__law_is_known : Addr} {od__law_is_known an__law_is_known : Option Addr} {sl__law_is_known : Array (Option Value)} {oc__law_is_known kV__law_is_known dc__law_is_known pm__law_is_known cd__law_is_known ct__law_is_known : Value}
    (a__law_is_known : PySem.W.nsIn K mainGlobals "_law_is_known" = some (some (.ref f__law_is_known))) (l__law_is_known : K.lookup f__law_is_known = some ⟨oc__law_is_known, od__law_is_known, .func (PySem.W.fnOf "_law_is_known" "_law_is_known" (defArgs S__law_is_known) (defBody S__law_is_known) (defScope S__law_is_known) .none kV__law_is_known dc__law_is_known pm__law_is_known an__law_is_known cd__law_is_known ct__law_is_known), sl__law_is_known⟩) (e__law_is_known : PySem.W.codeIn K cd__law_is_known "_law_is_known" = true) (k__law_is_known : PySem.W.keepIn K (.ref f__law_is_known) = true)
    {f__law_is_leaf : Addr} {od__law_is_leaf an__law_is_leaf : Option Addr} {sl__law_is_leaf : Array (Option Value)} {oc__law_is_leaf kV__law_is_leaf dc__law_is_leaf pm__law_is_leaf cd__law_is_leaf ct__law_is_leaf : Value}
    (a__law_is_leaf : PySem.W.nsIn K mainGlobals "_law_is_leaf" = some (some (.ref f__law_is_leaf))) (l__law_is_leaf : K.lookup f__law_is_leaf = some ⟨oc__law_is_leaf, od__law_is_leaf, .func (PySem.W.fnOf "_law_is_leaf" "_law_is_leaf" (defArgs S__law_is_leaf) (defBody S__law_is_leaf) (defScope S__law_is_leaf) .none kV__law_is_leaf dc__law_is_leaf pm__law_is_leaf an__law_is_leaf cd__law_is_leaf ct__law_is_leaf), sl__law_is_leaf⟩) (e__law_is_leaf : PySem.W.codeIn K cd__law_is_leaf "_law_is_leaf" = true) (k__law_is_leaf : PySem.W.keepIn K (.ref f__law_is_leaf) = true)
    {f__law_is_tree : Addr} {od__law_is_tree an__law_is_tree : Option Addr} {sl__law_is_tree : Array (Option Value)} {oc__law_is_tree kV__law_is_tree dc__law_is_tree pm__law_is_tree cd__law_is_tree ct__law_is_tree : Value}
    (a__law_is_tree : PySem.W.nsIn K mainGlobals "_law_is_tree" = some (some (.ref f__law_is_tree))) (l__law_is_tree : K.lookup f__law_is_tree = some ⟨oc__law_is_tree, od__law_is_tree, .func (PySem.W.fnOf "_law_is_tree" "_law_is_tree" (defArgs S__law_is_tree) (defBody S__law_is_tree) (defScope S__law_is_tree) .none kV__law_is_tree dc__law_is_tree pm__law_is_tree an__law_is_tree cd__law_is_tree ct__law_is_tree), sl__law_is_tree⟩) (e__law_is_tree : PySem.W.codeIn K cd__law_is_tree "_law_is_tree" = true) (k__law_is_tree : PySem.W.keepIn K (.ref f__law_is_tree) = true)
    {f__law_paths : Addr} {od__law_paths an__law_paths : Option Addr} {sl__law_paths : Array (Option Value)} {oc__law_paths kV__law_paths dc__law_paths pm__law_paths cd__law_paths ct__law_paths : Value}
    (a__law_paths : PySem.W.nsIn K mainGlobals "_law_paths" = some (some (.ref f__law_paths))) (l__law_paths : K.lookup f__law_paths = some ⟨oc__law_paths, od__law_paths, .func (PySem.W.fnOf "_law_paths" "_law_paths" (defArgs S__law_paths) (defBody S__law_paths) (defScope S__law_paths) .none kV__law_paths dc__law_paths pm__law_paths an__law_paths cd__law_paths ct__law_paths), sl__law_paths⟩) (e__law_paths : PySem.W.codeIn K cd__law_paths "_law_paths" = true) (k__law_paths : PySem.W.keepIn K (.ref f__law_paths) = true)
    {f__law_tree : Addr} {od__law_tree an__law_tree : Option Addr} {sl__law_tree : Array (Option Value)} {oc__law_tree kV__law_tree dc__law_tree pm__law_tree cd__law_tree ct__law_tree : Value}
    (a__law_tree : PySem.W.nsIn K mainGlobals "_law_tree" = some (some (.ref f__law_tree))) (l__law_tree : K.lookup f__law_tree = some ⟨oc__law_tree, od__law_tree, .func (PySem.W.fnOf "_law_tree" "_law_tree" (defArgs S__law_tree) (defBody S__law_tree) (defScope S__law_tree) .none kV__law_tree dc__law_tree pm__law_tree an__law_tree cd__law_tree ct__law_tree), sl__law_tree⟩) (e__law_tree : PySem.W.codeIn K cd__law_tree "_law_tree" = true) (k__law_tree : PySem.W.keepIn K (.ref f__law_tree) = true)
    {f__law_long : Addr} {od__law_long an__law_long : Option Addr} {sl__law_long : Array (Option Value)} {oc__law_long kV__law_long dc__law_long pm__law_long cd__law_long ct__law_long : Value}
    (a__law_long : PySem.W.nsIn K mainGlobals "_law_long" = some (some (.ref f__law_long))) (l__law_long : K.lookup f__law_long = some ⟨oc__law_long, od__law_long, .func (PySem.W.fnOf "_law_long" "_law_long" (defArgs S__law_long) (defBody S__law_long) (defScope S__law_long) .none kV__law_long dc__law_long pm__law_long an__law_long cd__law_long ct__law_long), sl__law_long⟩) (e__law_long : PySem.W.codeIn K cd__law_long "_law_long" = true) (k__law_long : PySem.W.keepIn K (.ref f__law_long) = true)
    {f__law_bent_leaf : Addr} {od__law_bent_leaf an__law_bent_leaf : Option Addr} {sl__law_bent_leaf : Array (Option Value)} {oc__law_bent_leaf kV__law_bent_leaf dc__law_bent_leaf pm__law_bent_leaf cd__law_bent_leaf ct__law_bent_leaf : Value}
    (a__law_bent_leaf : PySem.W.nsIn K mainGlobals "_law_bent_leaf" = some (some (.ref f__law_bent_leaf))) (l__law_bent_leaf : K.lookup f__law_bent_leaf = some ⟨oc__law_bent_leaf, od__law_bent_leaf, .func (PySem.W.fnOf "_law_bent_leaf" "_law_bent_leaf" (defArgs S__law_bent_leaf) (defBody S__law_bent_leaf) (defScope S__law_bent_leaf) .none kV__law_bent_leaf dc__law_bent_leaf pm__law_bent_leaf an__law_bent_leaf cd__law_bent_leaf ct__law_bent_leaf), sl__law_bent_leaf⟩) (e__law_bent_leaf : PySem.W.codeIn K cd__law_bent_leaf "_law_bent_leaf" = true) (k__law_bent_leaf : PySem.W.keepIn K (.ref f__law_bent_leaf) = true)
    {f__law_bent_test : Addr} {od__law_bent_test an__law_bent_test : Option Addr} {sl__law_bent_test : Array (Option Value)} {oc__law_bent_test kV__law_bent_test dc__law_bent_test pm__law_bent_test cd__law_bent_test ct__law_bent_test : Value}
    (a__law_bent_test : PySem.W.nsIn K mainGlobals "_law_bent_test" = some (some (.ref f__law_bent_test))) (l__law_bent_test : K.lookup f__law_bent_test = some ⟨oc__law_bent_test, od__law_bent_test, .func (PySem.W.fnOf "_law_bent_test" "_law_bent_test" (defArgs S__law_bent_test) (defBody S__law_bent_test) (defScope S__law_bent_test) .none kV__law_bent_test dc__law_bent_test pm__law_bent_test an__law_bent_test cd__law_bent_test ct__law_bent_test), sl__law_bent_test⟩) (e__law_bent_test : PySem.W.codeIn K cd__law_bent_test "_law_bent_test" = true) (k__law_bent_test : PySem.W.keepIn K (.ref f__law_bent_test) = true)
    {f__law_bent : Addr} {od__law_bent an__law_bent : Option Addr} {sl__law_bent : Array (Option Value)} {oc__law_bent kV__law_bent dc__law_bent pm__law_bent cd__law_bent ct__law_bent : Value}
    (a__law_bent : PySem.W.nsIn K mainGlobals "_law_bent" = some (some (.ref f__law_bent))) (l__law_bent : K.lookup f__law_bent = some ⟨oc__law_bent, od__law_bent, .func (PySem.W.fnOf "_law_bent" "_law_bent" (defArgs S__law_bent) (defBody S__law_bent) (defScope S__law_bent) .none kV__law_bent dc__law_bent pm__law_bent an__law_bent cd__law_bent ct__law_bent), sl__law_bent⟩) (e__law_bent : PySem.W.codeIn K cd__law_bent "_law_bent" = true) (k__law_bent : PySem.W.keepIn K (.ref f__law_bent) = true)
    {f__law_is_so : Addr} {od__law_is_so an__law_is_so : Option Addr} {sl__law_is_so : Array (Option Value)} {oc__law_is_so kV__law_is_so dc__law_is_so pm__law_is_so cd__law_is_so ct__law_is_so : Value}
    (a__law_is_so : PySem.W.nsIn K mainGlobals "_law_is_so" = some (some (.ref f__law_is_so))) (l__law_is_so : K.lookup f__law_is_so = some ⟨oc__law_is_so, od__law_is_so, .func (PySem.W.fnOf "_law_is_so" "_law_is_so" (defArgs S__law_is_so) (defBody S__law_is_so) (defScope S__law_is_so) .none kV__law_is_so dc__law_is_so pm__law_is_so an__law_is_so cd__law_is_so ct__law_is_so), sl__law_is_so⟩) (e__law_is_so : PySem.W.codeIn K cd__law_is_so "_law_is_so" = true) (k__law_is_so : PySem.W.keepIn K (.ref f__law_is_so) = true)
    {f__law_right : Addr} {od__law_right an__law_right : Option Addr} {sl__law_right : Array (Option Value)} {oc__law_right kV__law_right dc__law_right pm__law_right cd__law_right ct__law_right : Value}
    (a__law_right : PySem.W.nsIn K mainGlobals "_law_right" = some (some (.ref f__law_right))) (l__law_right : K.lookup f__law_right = some ⟨oc__law_right, od__law_right, .func (PySem.W.fnOf "_law_right" "_law_right" (defArgs S__law_right) (defBody S__law_right) (defScope S__law_right) .none kV__law_right dc__law_right pm__law_right an__law_right cd__law_right ct__law_right), sl__law_right⟩) (e__law_right : PySem.W.codeIn K cd__law_right "_law_right" = true) (k__law_right : PySem.W.keepIn K (.ref f__law_right) = true)
    {f_law : Addr} {od_law an_law : Option Addr} {sl_law : Array (Option Value)} {oc_law kV_law dc_law pm_law cd_law ct_law : Value}
    (a_law : PySem.W.nsIn K mainGlobals "law" = some (some (.ref f_law))) (l_law : K.lookup f_law = some ⟨oc_law, od_law, .func (PySem.W.fnOf "law" "law" (defArgs S_law) (defBody S_law) (defScope S_law) .none kV_law dc_law pm_law an_law cd_law ct_law), sl_law⟩) (e_law : PySem.W.codeIn K cd_law "law" = true) (k_law : PySem.W.keepIn K (.ref f_law) = true)
    (z_abs : PySem.W.nsIn K mainGlobals "abs" = some none)
    (z_all : PySem.W.nsIn K mainGlobals "all" = some none)
    (z_any : PySem.W.nsIn K mainGlobals "any" = some none)
    (z_bool : PySem.W.nsIn K mainGlobals "bool" = some none)
    (z_dict : PySem.W.nsIn K mainGlobals "dict" = some none)
    (z_divmod : PySem.W.nsIn K mainGlobals "divmod" = some none)
    (z_int : PySem.W.nsIn K mainGlobals "int" = some none)
    (z_isinstance : PySem.W.nsIn K mainGlobals "isinstance" = some none)
    (z_len : PySem.W.nsIn K mainGlobals "len" = some none)
    (z_list : PySem.W.nsIn K mainGlobals "list" = some none)
    (z_max : PySem.W.nsIn K mainGlobals "max" = some none)
    (z_range : PySem.W.nsIn K mainGlobals "range" = some none)
    (z_repr : PySem.W.nsIn K mainGlobals "repr" = some none)
    (z_set : PySem.W.nsIn K mainGlobals "set" = some none)
    (z_sorted : PySem.W.nsIn K mainGlobals "sorted" = some none)
    (z_str : PySem.W.nsIn K mainGlobals "str" = some none)
    (z_sum : PySem.W.nsIn K mainGlobals "sum" = some none)
    (z_tuple : PySem.W.nsIn K mainGlobals "tuple" = some none)
    (z_zip : PySem.W.nsIn K mainGlobals "zip" = some none)
    {t_DIGITS : Tok} (c_DIGITS : PySem.W.nsIn K mainGlobals "DIGITS" = some (some (.str "0123456789" t_DIGITS)))
    {t_FRESH_NAME : Tok} (c_FRESH_NAME : PySem.W.nsIn K mainGlobals "FRESH_NAME" = some (some (.str "zz" t_FRESH_NAME)))
    {t_GREAT : Tok} (c_GREAT : PySem.W.nsIn K mainGlobals "GREAT" = some (some (.str "ABCDEFGHIJKLMNOPQRSTUVWXYZ" t_GREAT)))
    {t_HEAD : Tok} (c_HEAD : PySem.W.nsIn K mainGlobals "HEAD" = some (some (.str "head" t_HEAD)))
    {t_IS : Tok} (c_IS : PySem.W.nsIn K mainGlobals "IS" = some (some (.str "is" t_IS)))
    {t_MOST_ARGS : Tok} (c_MOST_ARGS : PySem.W.nsIn K mainGlobals "MOST_ARGS" = some (some (.int (8) t_MOST_ARGS)))
    {t_MOST_DIGITS : Tok} (c_MOST_DIGITS : PySem.W.nsIn K mainGlobals "MOST_DIGITS" = some (some (.int (2) t_MOST_DIGITS)))
    {t_MOST_NUMBER : Tok} (c_MOST_NUMBER : PySem.W.nsIn K mainGlobals "MOST_NUMBER" = some (some (.int (999) t_MOST_NUMBER)))
    {t_MOST_POSITIONS : Tok} (c_MOST_POSITIONS : PySem.W.nsIn K mainGlobals "MOST_POSITIONS" = some (some (.int (40) t_MOST_POSITIONS)))
    {t_MOST_SHAPE : Tok} (c_MOST_SHAPE : PySem.W.nsIn K mainGlobals "MOST_SHAPE" = some (some (.int (999) t_MOST_SHAPE)))
    {t_MOST_SIGNS : Tok} (c_MOST_SIGNS : PySem.W.nsIn K mainGlobals "MOST_SIGNS" = some (some (.int (8) t_MOST_SIGNS)))
    {t_NEAREST : Tok} (c_NEAREST : PySem.W.nsIn K mainGlobals "NEAREST" = some (some (.str "nearest" t_NEAREST)))
    {t_REST : Tok} (c_REST : PySem.W.nsIn K mainGlobals "REST" = some (some (.str "rest" t_REST)))
    {t_SAME : Tok} (c_SAME : PySem.W.nsIn K mainGlobals "SAME" = some (some (.str "same" t_SAME)))
    {t_SMALL : Tok} (c_SMALL : PySem.W.nsIn K mainGlobals "SMALL" = some (some (.str "abcdefghijklmnopqrstuvwxyz" t_SMALL)))
    {t_TERM : Tok} (c_TERM : PySem.W.nsIn K mainGlobals "TERM" = some (some (.str "term" t_TERM)))
    : ∃ fd : FuncData, (∀ (s : Shared) (v : Value), BindsTo s fd ⟨[v], []⟩ [("script", v)]) ∧ ∀ base : Heap, K.In base → base.Ns mainGlobals mg → FnG l.prog w K mg base CX0 depth fa fd ["script"] (spF K (fun _ => 0) (run T depth) 39 1) := by
  have e := hfa.symm.trans (PySem.W.mg_of X G a_law)
  cases e
  have F_is_integer := fun_mk (st := S_is_integer) l_is_integer e_is_integer k_is_integer
  have b_is_integer := F_is_integer.binds (ps := ["value"]) fun _ _ _ _ _ _ us hl => match us, hl with | [_], _ => rfl
  have F_is_count := fun_mk (st := S_is_count) l_is_count e_is_count k_is_count
  have b_is_count := F_is_count.binds (ps := ["value"]) fun _ _ _ _ _ _ us hl => match us, hl with | [_], _ => rfl
  have F_is_name := fun_mk (st := S_is_name) l_is_name e_is_name k_is_name
  have b_is_name := F_is_name.binds (ps := ["value"]) fun _ _ _ _ _ _ us hl => match us, hl with | [_], _ => rfl
  have F_is_variable := fun_mk (st := S_is_variable) l_is_variable e_is_variable k_is_variable
  have b_is_variable := F_is_variable.binds (ps := ["value"]) fun _ _ _ _ _ _ us hl => match us, hl with | [_], _ => rfl
  have F_is_head := fun_mk (st := S_is_head) l_is_head e_is_head k_is_head
  have b_is_head := F_is_head.binds (ps := ["value"]) fun _ _ _ _ _ _ us hl => match us, hl with | [_], _ => rfl
  have F_is_rest := fun_mk (st := S_is_rest) l_is_rest e_is_rest k_is_rest
  have b_is_rest := F_is_rest.binds (ps := ["value"]) fun _ _ _ _ _ _ us hl => match us, hl with | [_], _ => rfl
  have F_is_applied := fun_mk (st := S_is_applied) l_is_applied e_is_applied k_is_applied
  have b_is_applied := F_is_applied.binds (ps := ["value"]) fun _ _ _ _ _ _ us hl => match us, hl with | [_], _ => rfl
  have F_standings := fun_mk (st := S_standings) l_standings e_standings k_standings
  have b_standings := F_standings.binds (ps := ["value"]) fun _ _ _ _ _ _ us hl => match us, hl with | [_], _ => rfl
  have F_have_one_sort := fun_mk (st := S_have_one_sort) l_have_one_sort e_have_one_sort k_have_one_sort
  have b_have_one_sort := F_have_one_sort.binds (ps := ["found"]) fun _ _ _ _ _ _ us hl => match us, hl with | [_], _ => rfl
  have F_pieces := fun_mk (st := S_pieces) l_pieces e_pieces k_pieces
  have b_pieces := F_pieces.binds (ps := ["term"]) fun _ _ _ _ _ _ us hl => match us, hl with | [_], _ => rfl
  have F_numbers_of := fun_mk (st := S_numbers_of) l_numbers_of e_numbers_of k_numbers_of
  have b_numbers_of := F_numbers_of.binds (ps := ["term"]) fun _ _ _ _ _ _ us hl => match us, hl with | [_], _ => rfl
  have F_names_of := fun_mk (st := S_names_of) l_names_of e_names_of k_names_of
  have b_names_of := F_names_of.binds (ps := ["term"]) fun _ _ _ _ _ _ us hl => match us, hl with | [_], _ => rfl
  have F_is_term := fun_mk (st := S_is_term) l_is_term e_is_term k_is_term
  have b_is_term := F_is_term.binds (ps := ["value"]) fun _ _ _ _ _ _ us hl => match us, hl with | [_], _ => rfl
  have F_is_pattern := fun_mk (st := S_is_pattern) l_is_pattern e_is_pattern k_is_pattern
  have b_is_pattern := F_is_pattern.binds (ps := ["value"]) fun _ _ _ _ _ _ us hl => match us, hl with | [_], _ => rfl
  have F_is_leaf := fun_mk (st := S_is_leaf) l_is_leaf e_is_leaf k_is_leaf
  have b_is_leaf := F_is_leaf.binds (ps := ["value"]) fun _ _ _ _ _ _ us hl => match us, hl with | [_], _ => rfl
  have F_is_shape := fun_mk (st := S_is_shape) l_is_shape e_is_shape k_is_shape
  have b_is_shape := F_is_shape.binds (ps := ["value"]) fun _ _ _ _ _ _ us hl => match us, hl with | [_], _ => rfl
  have F_is_known_path := fun_mk (st := S_is_known_path) l_is_known_path e_is_known_path k_is_known_path
  have b_is_known_path := F_is_known_path.binds (ps := ["value", "many", "known"]) fun _ _ _ _ _ _ us hl => match us, hl with | [_, _, _], _ => rfl
  have F_is_test := fun_mk (st := S_is_test) l_is_test e_is_test k_is_test
  have b_is_test := F_is_test.binds (ps := ["value", "many", "known"]) fun _ _ _ _ _ _ us hl => match us, hl with | [_, _, _], _ => rfl
  have F_known_behind := fun_mk (st := S_known_behind) l_known_behind e_known_behind k_known_behind
  have b_known_behind := F_known_behind.binds (ps := ["test", "known"]) fun _ _ _ _ _ _ us hl => match us, hl with | [_, _], _ => rfl
  have F_is_tree_of := fun_mk (st := S_is_tree_of) l_is_tree_of e_is_tree_of k_is_tree_of
  have b_is_tree_of := F_is_tree_of.binds (ps := ["many", "value"]) fun _ _ _ _ _ _ us hl => match us, hl with | [_, _], _ => rfl
  have F_want_tree_count := fun_mk (st := S_want_tree_count) l_want_tree_count e_want_tree_count k_want_tree_count
  have b_want_tree_count := F_want_tree_count.binds (ps := ["value"]) fun _ _ _ _ _ _ us hl => match us, hl with | [_], _ => rfl
  have F_is_tree := fun_mk (st := S_is_tree) l_is_tree e_is_tree k_is_tree
  have b_is_tree := F_is_tree.binds (ps := ["many", "value"]) fun _ _ _ _ _ _ us hl => match us, hl with | [_, _], _ => rfl
  have F__law_pot := fun_mk (st := S__law_pot) l__law_pot e__law_pot k__law_pot
  have b__law_pot := F__law_pot.binds (ps := ["script", "k"]) fun _ _ _ _ _ _ us hl => match us, hl with | [_, _], _ => rfl
  have F__law_draw := fun_mk (st := S__law_draw) l__law_draw e__law_draw k__law_draw
  have b__law_draw := F__law_draw.binds (ps := ["pot", "sides"]) fun _ _ _ _ _ _ us hl => match us, hl with | [_, _], _ => rfl
  have F__law_pick := fun_mk (st := S__law_pick) l__law_pick e__law_pick k__law_pick
  have b__law_pick := F__law_pick.binds (ps := ["pot", "some"]) fun _ _ _ _ _ _ us hl => match us, hl with | [_, _], _ => rfl
  have F__law_is_count := fun_mk (st := S__law_is_count) l__law_is_count e__law_is_count k__law_is_count
  have b__law_is_count := F__law_is_count.binds (ps := ["value"]) fun _ _ _ _ _ _ us hl => match us, hl with | [_], _ => rfl
  have F__law_is_name := fun_mk (st := S__law_is_name) l__law_is_name e__law_is_name k__law_is_name
  have b__law_is_name := F__law_is_name.binds (ps := ["value"]) fun _ _ _ _ _ _ us hl => match us, hl with | [_], _ => rfl
  have F__law_is_shape := fun_mk (st := S__law_is_shape) l__law_is_shape e__law_is_shape k__law_is_shape
  have b__law_is_shape := F__law_is_shape.binds (ps := ["value"]) fun _ _ _ _ _ _ us hl => match us, hl with | [_], _ => rfl
  have F__law_is_known := fun_mk (st := S__law_is_known) l__law_is_known e__law_is_known k__law_is_known
  have b__law_is_known := F__law_is_known.binds (ps := ["value", "known"]) fun _ _ _ _ _ _ us hl => match us, hl with | [_, _], _ => rfl
  have F__law_is_leaf := fun_mk (st := S__law_is_leaf) l__law_is_leaf e__law_is_leaf k__law_is_leaf
  have b__law_is_leaf := F__law_is_leaf.binds (ps := ["value"]) fun _ _ _ _ _ _ us hl => match us, hl with | [_], _ => rfl
  have F__law_is_tree := fun_mk (st := S__law_is_tree) l__law_is_tree e__law_is_tree k__law_is_tree
  have b__law_is_tree := F__law_is_tree.binds (ps := ["value", "known"]) fun _ _ _ _ _ _ us hl => match us, hl with | [_, _], _ => rfl
  have F__law_paths := fun_mk (st := S__law_paths) l__law_paths e__law_paths k__law_paths
  have b__law_paths := F__law_paths.binds (ps := ["known"]) fun _ _ _ _ _ _ us hl => match us, hl with | [_], _ => rfl
  have F__law_tree := fun_mk (st := S__law_tree) l__law_tree e__law_tree k__law_tree
  have b__law_tree := F__law_tree.binds (ps := ["pot", "deep", "known"]) fun _ _ _ _ _ _ us hl => match us, hl with | [_, _, _], _ => rfl
  have F__law_long := fun_mk (st := S__law_long) l__law_long e__law_long k__law_long
  have b__law_long := F__law_long.binds (ps := ["pot", "many"]) fun _ _ _ _ _ _ us hl => match us, hl with | [_, _], _ => rfl
  have F__law_bent_leaf := fun_mk (st := S__law_bent_leaf) l__law_bent_leaf e__law_bent_leaf k__law_bent_leaf
  have b__law_bent_leaf := F__law_bent_leaf.binds (ps := ["pot", "leaf"]) fun _ _ _ _ _ _ us hl => match us, hl with | [_, _], _ => rfl
  have F__law_bent_test := fun_mk (st := S__law_bent_test) l__law_bent_test e__law_bent_test k__law_bent_test
  have b__law_bent_test := F__law_bent_test.binds (ps := ["pot", "test"]) fun _ _ _ _ _ _ us hl => match us, hl with | [_, _], _ => rfl
  have F__law_bent := fun_mk (st := S__law_bent) l__law_bent e__law_bent k__law_bent
  have b__law_bent := F__law_bent.binds (ps := ["pot", "tree"]) fun _ _ _ _ _ _ us hl => match us, hl with | [_, _], _ => rfl
  have F__law_is_so := fun_mk (st := S__law_is_so) l__law_is_so e__law_is_so k__law_is_so
  have b__law_is_so := F__law_is_so.binds (ps := ["many", "value"]) fun _ _ _ _ _ _ us hl => match us, hl with | [_, _], _ => rfl
  have F__law_right := fun_mk (st := S__law_right) l__law_right e__law_right k__law_right
  have b__law_right := F__law_right.binds (ps := ["pot"]) fun _ _ _ _ _ _ us hl => match us, hl with | [_], _ => rfl
  have F_law := fun_mk (st := S_law) l_law e_law k_law
  have b_law := F_law.binds (ps := ["script"]) fun _ _ _ _ _ _ us hl => match us, hl with | [_], _ => rfl
  refine ⟨PySem.W.fnOf "law" "law" (defArgs S_law) (defBody S_law) (defScope S_law) .none kV_law dc_law pm_law an_law cd_law ct_law, fun s v => .of_eq rfl, fun base _ _ => ?_⟩
  have gc : GC mg := { b_abs := PySem.W.mg_none_of X G z_abs, b_all := PySem.W.mg_none_of X G z_all, b_any := PySem.W.mg_none_of X G z_any, b_bool := PySem.W.mg_none_of X G z_bool, b_dict := PySem.W.mg_none_of X G z_dict, b_divmod := PySem.W.mg_none_of X G z_divmod, b_int := PySem.W.mg_none_of X G z_int, b_isinstance := PySem.W.mg_none_of X G z_isinstance, b_len := PySem.W.mg_none_of X G z_len, b_list := PySem.W.mg_none_of X G z_list, b_max := PySem.W.mg_none_of X G z_max, b_range := PySem.W.mg_none_of X G z_range, b_repr := PySem.W.mg_none_of X G z_repr, b_set := PySem.W.mg_none_of X G z_set, b_sorted := PySem.W.mg_none_of X G z_sorted, b_str := PySem.W.mg_none_of X G z_str, b_sum := PySem.W.mg_none_of X G z_sum, b_tuple := PySem.W.mg_none_of X G z_tuple, b_zip := PySem.W.mg_none_of X G z_zip, c_DIGITS := ⟨_, PySem.W.mg_of X G c_DIGITS, ⟨_, rfl⟩⟩, c_FRESH_NAME := ⟨_, PySem.W.mg_of X G c_FRESH_NAME, ⟨_, rfl⟩⟩, c_GREAT := ⟨_, PySem.W.mg_of X G c_GREAT, ⟨_, rfl⟩⟩, c_HEAD := ⟨_, PySem.W.mg_of X G c_HEAD, ⟨_, rfl⟩⟩, c_IS := ⟨_, PySem.W.mg_of X G c_IS, ⟨_, rfl⟩⟩, c_MOST_ARGS := ⟨_, PySem.W.mg_of X G c_MOST_ARGS, ⟨_, rfl⟩⟩, c_MOST_DIGITS := ⟨_, PySem.W.mg_of X G c_MOST_DIGITS, ⟨_, rfl⟩⟩, c_MOST_NUMBER := ⟨_, PySem.W.mg_of X G c_MOST_NUMBER, ⟨_, rfl⟩⟩, c_MOST_POSITIONS := ⟨_, PySem.W.mg_of X G c_MOST_POSITIONS, ⟨_, rfl⟩⟩, c_MOST_SHAPE := ⟨_, PySem.W.mg_of X G c_MOST_SHAPE, ⟨_, rfl⟩⟩, c_MOST_SIGNS := ⟨_, PySem.W.mg_of X G c_MOST_SIGNS, ⟨_, rfl⟩⟩, c_NEAREST := ⟨_, PySem.W.mg_of X G c_NEAREST, ⟨_, rfl⟩⟩, c_REST := ⟨_, PySem.W.mg_of X G c_REST, ⟨_, rfl⟩⟩, c_SAME := ⟨_, PySem.W.mg_of X G c_SAME, ⟨_, rfl⟩⟩, c_SMALL := ⟨_, PySem.W.mg_of X G c_SMALL, ⟨_, rfl⟩⟩, c_TERM := ⟨_, PySem.W.mg_of X G c_TERM, ⟨_, rfl⟩⟩ }
  exact law_fn (g_all (P := l.prog) (w := w) (base := base) gc ⟨_, _, F_is_integer, PySem.W.mg_of X G a_is_integer, b_is_integer⟩ ⟨_, _, F_is_count, PySem.W.mg_of X G a_is_count, b_is_count⟩ ⟨_, _, F_is_name, PySem.W.mg_of X G a_is_name, b_is_name⟩ ⟨_, _, F_is_variable, PySem.W.mg_of X G a_is_variable, b_is_variable⟩ ⟨_, _, F_is_head, PySem.W.mg_of X G a_is_head, b_is_head⟩ ⟨_, _, F_is_rest, PySem.W.mg_of X G a_is_rest, b_is_rest⟩ ⟨_, _, F_is_applied, PySem.W.mg_of X G a_is_applied, b_is_applied⟩ ⟨_, _, F_standings, PySem.W.mg_of X G a_standings, b_standings⟩ ⟨_, _, F_have_one_sort, PySem.W.mg_of X G a_have_one_sort, b_have_one_sort⟩ ⟨_, _, F_pieces, PySem.W.mg_of X G a_pieces, b_pieces⟩ ⟨_, _, F_numbers_of, PySem.W.mg_of X G a_numbers_of, b_numbers_of⟩ ⟨_, _, F_names_of, PySem.W.mg_of X G a_names_of, b_names_of⟩ ⟨_, _, F_is_term, PySem.W.mg_of X G a_is_term, b_is_term⟩ ⟨_, _, F_is_pattern, PySem.W.mg_of X G a_is_pattern, b_is_pattern⟩ ⟨_, _, F_is_leaf, PySem.W.mg_of X G a_is_leaf, b_is_leaf⟩ ⟨_, _, F_is_shape, PySem.W.mg_of X G a_is_shape, b_is_shape⟩ ⟨_, _, F_is_known_path, PySem.W.mg_of X G a_is_known_path, b_is_known_path⟩ ⟨_, _, F_is_test, PySem.W.mg_of X G a_is_test, b_is_test⟩ ⟨_, _, F_known_behind, PySem.W.mg_of X G a_known_behind, b_known_behind⟩ ⟨_, _, F_is_tree_of, PySem.W.mg_of X G a_is_tree_of, b_is_tree_of⟩ ⟨_, _, F_want_tree_count, PySem.W.mg_of X G a_want_tree_count, b_want_tree_count⟩ ⟨_, _, F_is_tree, PySem.W.mg_of X G a_is_tree, b_is_tree⟩ ⟨_, _, F__law_pot, PySem.W.mg_of X G a__law_pot, b__law_pot⟩ ⟨_, _, F__law_draw, PySem.W.mg_of X G a__law_draw, b__law_draw⟩ ⟨_, _, F__law_pick, PySem.W.mg_of X G a__law_pick, b__law_pick⟩ ⟨_, _, F__law_is_count, PySem.W.mg_of X G a__law_is_count, b__law_is_count⟩ ⟨_, _, F__law_is_name, PySem.W.mg_of X G a__law_is_name, b__law_is_name⟩ ⟨_, _, F__law_is_shape, PySem.W.mg_of X G a__law_is_shape, b__law_is_shape⟩ ⟨_, _, F__law_is_known, PySem.W.mg_of X G a__law_is_known, b__law_is_known⟩ ⟨_, _, F__law_is_leaf, PySem.W.mg_of X G a__law_is_leaf, b__law_is_leaf⟩ ⟨_, _, F__law_is_tree, PySem.W.mg_of X G a__law_is_tree, b__law_is_tree⟩ ⟨_, _, F__law_paths, PySem.W.mg_of X G a__law_paths, b__law_paths⟩ ⟨_, _, F__law_tree, PySem.W.mg_of X G a__law_tree, b__law_tree⟩ ⟨_, _, F__law_long, PySem.W.mg_of X G a__law_long, b__law_long⟩ ⟨_, _, F__law_bent_leaf, PySem.W.mg_of X G a__law_bent_leaf, b__law_bent_leaf⟩ ⟨_, _, F__law_bent_test, PySem.W.mg_of X G a__law_bent_test, b__law_bent_test⟩ ⟨_, _, F__law_bent, PySem.W.mg_of X G a__law_bent, b__law_bent⟩ ⟨_, _, F__law_is_so, PySem.W.mg_of X G a__law_is_so, b__law_is_so⟩ ⟨_, _, F__law_right, PySem.W.mg_of X G a__law_right, b__law_right⟩ ⟨_, _, F_law, PySem.W.mg_of X G a_law, b_law⟩ depth).f_law F_law (PySem.W.mg_of X G a_law)
theorem walk {l : PySem.W.OpenLaw} {q : Program} {loose : List Str} {XP : (Str → Option Value) → Heap → Prop} {YP : World → Heap → Prop} {d : DefRec} {K : Params → PySem.W.Frag} (hn : l.most = some 63) (hdf : d.params.defaults = [])
    (hrun : ∀ ns : List Int, ns.length ≤ 63 → ∃ μ, run T depth 39 [.dat (.scr ns)] [] = .ok (.dat (.bl true)) μ) (hY : ∀ (w : World) (h : Heap), YP w h → (K w.params).In h)
    (F : ∀ (w : World) (mg : Str → Option Value) (fa : Addr) (h : Heap), (K w.params).In h → h.Ns mainGlobals mg → mg d.name = some (.ref fa) →
      ∃ fd : FuncData, (∀ (s : Shared) (u : Value), BindsTo s fd ⟨[u], []⟩ [("script", u)]) ∧ ∀ base : Heap, (K w.params).In base → base.Ns mainGlobals mg → FnG l.prog w (K w.params) mg base CX0 depth fa fd ["script"] (spF (K w.params) (fun _ => 0) (run T depth) 39 1)) :
    PySem.W.WalkO q loose XP YP l.row.toRowW d [] (fun f vs => PySem.call f vs) :=
  top_walk (n := 63) (k := depth) (x := "script") (CX := fun _ => CX0) (sp := fun w => spF (K w.params) (fun _ => 0) (run T depth) 39 1) hn (by decide) hdf ⟨rfl, by decide, by decide⟩ hY F (fun _ _ a ns hl _ hS => law_sp hS (hrun ns hl)) fun _ _ _ _ _ z => z
end Law
set_option maxHeartbeats 0
/-! k51: first facts. -/
namespace K51
open VM Law
open L2 (atI ixN)
theorem run_at {n i nl : Nat} {b : SS} {vs : List SV} {μ : Sto} (h : T[i]? = some (nl, b)) : VM.run T (n + 1) i vs μ = callEnd μ.length (b (VM.run T n) (startE nl vs) μ) := by
  show (match T[i]? with | some (m, b) => callEnd μ.length (b (VM.run T n) (startE m vs) μ) | none => .bad) = _
  rw [h]
theorem pure_of {n i : Nat} {vs : List SV} {μ : Sto} {v : EV} (h : VM.run T n i vs μ = .ok v (μ.take μ.length)) : VM.run T n i vs μ = .ok v μ := by
  rw [h, List.take_length]
theorem pure2 {n i : Nat} {vs : List SV} {μ : Sto} {v : EV} (h : VM.run T n i vs μ = .ok v ((μ.take μ.length).take μ.length)) : VM.run T n i vs μ = .ok v μ := by
  rw [h, List.take_length, List.take_length]
theorem tkl {μ : Sto} : μ.take μ.length = μ := List.take_length
theorem lim1 {n : Nat} (h : n ≤ 5000) : n ≤ LIM := Nat.le_trans h (by decide)
theorem lim2 {n : Nat} (h : n ≤ 5000) : n < LIM := Nat.lt_of_le_of_lt h (by decide)
/-! the draws -/
def potC (a b : Int) : Cell := ⟨true, .lst [.int a, .int b]⟩
def PotAt (μ : Sto) (k : Nat) : Prop := ∃ a b : Int, μ[k]? = some (potC a b)
def Nxt (μ μ' : Sto) (k : Nat) : Prop := ∃ a b : Int, μ' = μ.set k (potC a b)
section
variable {n k : Nat} {μ μ' μ2 E : Sto}
theorem PotAt.lt (h : PotAt μ k) : k < μ.length := let ⟨_, _, h⟩ := h; (List.getElem?_eq_some_iff.mp h).1
theorem Nxt.refl (h : PotAt μ k) : Nxt μ μ k := by
  obtain ⟨a, b, h⟩ := h
  have hk := (List.getElem?_eq_some_iff.mp h).1
  have e := (List.getElem?_eq_some_iff.mp h).2
  exact ⟨a, b, by rw [← e, List.set_getElem_self]⟩
theorem Nxt.len (h : Nxt μ μ' k) : μ'.length = μ.length := by obtain ⟨a, b, rfl⟩ := h; exact List.length_set
theorem Nxt.pot (h : Nxt μ μ' k) (hk : k < μ.length) : PotAt μ' k := by obtain ⟨a, b, rfl⟩ := h; exact ⟨a, b, List.getElem?_set_self hk⟩
theorem Nxt.trans (h : Nxt μ μ' k) (g : Nxt μ' μ2 k) : Nxt μ μ2 k := by
  obtain ⟨a, b, rfl⟩ := h
  obtain ⟨c, d, rfl⟩ := g
  exact ⟨c, d, List.set_set ..⟩
theorem PotAt.app (h : PotAt μ k) : PotAt (μ ++ E) k := by
  have := h.lt
  obtain ⟨a, b, h⟩ := h
  exact ⟨a, b, by rw [List.getElem?_append_left this]; exact h⟩
theorem Nxt.app (hk : k < μ.length) (h : Nxt (μ ++ E) μ' k) : ∃ μ1, μ' = μ1 ++ E ∧ Nxt μ μ1 k := by
  obtain ⟨a, b, rfl⟩ := h
  exact ⟨μ.set k (potC a b), by rw [List.set_append_left _ _ hk], a, b, rfl⟩
theorem ixl0 {a b : Int} : opIx (.lst [.int a, .int b]) (.int 0) = some (.dat (.int a)) := by
  unfold opIx L2.atI L2.ixN
  simp
theorem ixl1 {a b : Int} : opIx (.lst [.int a, .int b]) (.int 1) = some (.dat (.int b)) := by
  unfold opIx L2.atI L2.ixN
  simp
theorem s_draw (hp : PotAt μ k) (m : Int) (h0 : 0 < m) (h1 : m < 1073741824) : ∃ (d : Nat) (μ' : Sto), (d : Int) < m ∧ Nxt μ μ' k ∧ VM.run T (n + 1) 23 [.cel k, .dat (.int m)] μ = .ok (.dat (.int d)) μ' := by
  have hk := hp.lt
  obtain ⟨a, b, h⟩ := hp
  unfold potC at h
  have tk : ∀ c : Cell, (μ.set k c).take μ.length = μ.set k c := fun c => List.take_of_length_le (by rw [List.length_set]; exact Nat.le_refl _)
  have fin : ∀ (d : Int) (μ' : Sto), 0 ≤ d → d < m → Nxt μ μ' k → VM.run T (n + 1) 23 [.cel k, .dat (.int m)] μ = .ok (.dat (.int d)) μ' → ∃ (d : Nat) (μ' : Sto), (d : Int) < m ∧ Nxt μ μ' k ∧ VM.run T (n + 1) 23 [.cel k, .dat (.int m)] μ = .ok (.dat (.int d)) μ' := fun d μ' e0 e1 nx e => by
    obtain ⟨d', rfl⟩ : ∃ d' : Nat, d = d' := ⟨d.toNat, by omega⟩
    exact ⟨d', μ', e1, nx, e⟩
  rw [run_at (nl := 3) (b := P__law_draw) (by rfl)] at fin ⊢
  unfold P__law_draw at fin ⊢
  by_cases ha : 0 < a
  · refine fin (a % m) (μ.set k (potC (a / m) b)) (Int.emod_nonneg _ (by omega)) (Int.emod_lt_of_pos _ h0) ⟨_, _, rfl⟩ ?_
    simp [startE, EV.see, h, ixl0, opCmp, VM.opI, ha, bDivmod, h0, h1, gSb, VM.putAt, ixN, VM.callEnd, EV.out, tk, potC]
  · let p : Int := (b * 40739 + 8627) % 2147483587
    have p0 : 0 ≤ p := Int.emod_nonneg _ (by decide)
    have p1 : p < 2147483587 := Int.emod_lt_of_pos _ (by decide)
    refine fin (p * p % 2147483629 / 23 % m) (μ.set k (potC a p)) (Int.emod_nonneg _ (by omega)) (Int.emod_lt_of_pos _ h0) ⟨_, _, rfl⟩ ?_
    have m1 : opBin .Mult (.int b) (.int 40739) = some (.dat (.int (b * 40739))) := by simp [opBin, smallI]
    have a1 : opBin .Add (.int (b * 40739)) (.int 8627) = some (.dat (.int (b * 40739 + 8627))) := rfl
    have d1 : opBin .Mod (.int (b * 40739 + 8627)) (.int 2147483587) = some (.dat (.int p)) := rfl
    have sp : smallI p = true := by simp [smallI]; omega
    have m2 : opBin .Mult (.int p) (.int p) = some (.dat (.int (p * p))) := by simp [opBin, sp]
    have d2 : opBin .Mod (.int (p * p)) (.int 2147483629) = some (.dat (.int (p * p % 2147483629))) := rfl
    have d3 : opBin .FloorDiv (.int (p * p % 2147483629)) (.int 23) = some (.dat (.int (p * p % 2147483629 / 23))) := rfl
    have d4 : opBin .Mod (.int (p * p % 2147483629 / 23)) (.int m) = some (.dat (.int (p * p % 2147483629 / 23 % m))) := if_pos h0
    have bi : ∀ i : Int, bInt [.int i] = some (.dat (.int i)) := fun i => rfl
    have g1 : (μ.set k ⟨true, .lst [.int a, .int p]⟩)[k]? = some ⟨true, .lst [.int a, .int p]⟩ := List.getElem?_set_self hk
    simp [startE, EV.see, h, ixl0, ixl1, opCmp, VM.opI, ha, gSb, VM.putAt, ixN, VM.callEnd, EV.out, tk, potC, bi, m1, a1, d1, m2, d2, d3, d4, g1]
theorem s_pick (hp : PotAt μ k) (xs : List D) (h0 : 0 < xs.length) (h1 : xs.length < 1000) : ∃ (x : D) (μ' : Sto), x ∈ xs ∧ Nxt μ μ' k ∧ VM.run T (n + 2) 24 [.cel k, .dat (.lst xs)] μ = .ok (.dat x) μ' := by
  obtain ⟨d, μ', hd, nx, e⟩ := s_draw (n := n) hp (xs.length : Nat) (by omega) (by omega)
  have hd' : d < xs.length := by omega
  refine ⟨xs[d], μ', List.getElem_mem hd', nx, ?_⟩
  rw [run_at (nl := 2) (b := P__law_pick) (by rfl)]
  unfold P__law_pick
  have bl : bLen [.lst xs] = some (.dat (.int xs.length)) := rfl
  have ix : opIx (.lst xs) (.int (d : Nat)) = some (.dat xs[d]) := by
    show (atI xs (d : Nat)).map EV.dat = _
    unfold L2.atI L2.ixN
    rw [if_pos (by omega), if_pos (by omega)]
    simp [List.getElem?_eq_getElem hd']
  have tk : μ'.take μ.length = μ' := List.take_of_length_le (by rw [nx.len]; exact Nat.le_refl _)
  simp [startE, bl, e, ix, VM.callEnd, EV.out, tk]
end


section
variable {n k : Nat} {μ : Sto}
theorem s_pot (ns : List Int) (h : ns.length ≤ 63) : ∃ a b : Int, VM.run T (n + 1) 22 [.dat (.scr ns), .dat (.int 0)] μ = .ok (.new (.lst [.int a, .int b])) μ := by
  rw [run_at (nl := 4) (b := P__law_pot) (by rfl)]
  have bl : bLen [.scr ns] = some (.dat (.int ns.length)) := by
    first | rfl | exact if_pos h
  have fin : ∀ x : Int, ∃ a b : Int, VM.callEnd μ.length ((sSeq (sSet 3 (eBin .Add (eBin .Mod (eCb bInt (evs [eBin .Add (eBin .Add (eBin .Mult (eBin .Mod (eCb bInt (evs [eV 2])) (eC (.int 2147483549))) (eC (.int 40499))) (eBin .Mult (eC (.int 8627)) (eV 1))) (eC (.int 157))])) (eC (.int 2147483563))) (eC (.int 1)))) (sRet (eLst (evs [eCb bMax (evs [eC (.int 0), eBin .Sub (eV 2) (eBin .Pow (eC (.int 10)) (eC (.int 18)))]), eV 3])))) (VM.run T n) [some (.dat (.scr ns)), some (.dat (.int 0)), some (.dat (.int x)), none] μ) = .ok (.new (.lst [.int a, .int b])) μ := fun x => by
    obtain ⟨y, hy⟩ : ∃ y, y = x % 2147483549 := ⟨_, rfl⟩
    have y0 : 0 ≤ y := by rw [hy]; exact Int.emod_nonneg _ (by decide)
    have y1 : y < 2147483549 := by rw [hy]; exact Int.emod_lt_of_pos _ (by decide)
    have bi : ∀ i : Int, bInt [.int i] = some (.dat (.int i)) := fun i => rfl
    have pw : opBin .Pow (.int 10) (.int 18) = some (.dat (.int 1000000000000000000)) := by simp [opBin]
    have sb : opBin .Sub (.int x) (.int 1000000000000000000) = some (.dat (.int (x - 1000000000000000000))) := rfl
    obtain ⟨a, mx⟩ : ∃ a : Int, bMax [.int 0, .int (x - 1000000000000000000)] = some (.dat (.int a)) := ⟨_, rfl⟩
    have d1 : opBin .Mod (.int x) (.int 2147483549) = some (.dat (.int y)) := by rw [hy]; rfl
    have m1 : opBin .Mult (.int y) (.int 40499) = some (.dat (.int (y * 40499))) := by
      have sp : smallI y = true := by simp [smallI]; omega
      have sq : smallI 40499 = true := by decide
      simp [opBin, sp, sq]
    have m2 : opBin .Mult (.int 8627) (.int 0) = some (.dat (.int 0)) := by rfl
    obtain ⟨z, hz⟩ : ∃ z, z = (y * 40499 + 157) % 2147483563 := ⟨_, rfl⟩
    have d2 : opBin .Mod (.int (y * 40499 + 157)) (.int 2147483563) = some (.dat (.int z)) := by rw [hz]; rfl
    refine ⟨a, z + 1, ?_⟩
    generalize VM.run T n = F
    simp [bi, pw, sb, mx, d1, m1, m2, addI, d2, VM.callEnd, EV.out]
  unfold P__law_pot
  have e0 : ∃ x : Int, (sSet 2 (eIf (bCmp (opCmp .Lt) (eV 1) (eCb bLen (evs [eV 0]))) (eCb bAbs (evs [eIx (eV 0) (eV 1)])) (eBin .Add (eBin .Add (eBin .Mult (eC (.int 313)) (eV 1)) (eC (.int 227))) (eBin .Mod (eCb bAbs (evs [eCb bSum (evs [eSl (eV 0) (oNone) (oSome (eC (.int 1)))])])) (eC (.int 1000003)))))) (VM.run T n) (startE 4 [.dat (.scr ns), .dat (.int 0)]) μ = .ok (.nx [some (.dat (.scr ns)), some (.dat (.int 0)), some (.dat (.int x)), none]) μ := by
    have m2 : opBin .Mult (.int 313) (.int 0) = some (.dat (.int 0)) := by rfl
    cases ns with
    | nil =>
      have lt : opCmp .Lt (.int 0) (.int 0) = some false := by rfl
      simp at bl
      have sl : opSl (.scr []) none (some 1) = some (.new (.lst [])) := by rfl
      have su : bSum [.lst []] = some (.dat (.int 0)) := by rfl
      have ab : bAbs [.int 0] = some (.dat (.int 0)) := by rfl
      have mo : opBin .Mod (.int 0) (.int 1000003) = some (.dat (.int 0)) := by rfl
      exact ⟨227, by simp [startE, bl, lt, m2, addI, oNone, oSome, sl, su, ab, mo]⟩
    | cons i ns =>
      have lt : opCmp .Lt (.int 0) (.int ((i :: ns).length : Nat)) = some true := by simp [opCmp, VM.opI]
      have ix : opIx (.scr (i :: ns)) (.int 0) = some (.dat (.int i)) := by
        unfold opIx L2.atI L2.ixN
        simp
      have ab : bAbs [.int i] = some (.dat (.int (if i < 0 then -i else i))) := rfl
      generalize ((i :: ns).length : Nat) = len at bl lt
      exact ⟨_, by simp [startE, bl, lt, ix, ab]; rfl⟩
  obtain ⟨x, e0⟩ := e0
  obtain ⟨a, b, e⟩ := fin x
  exact ⟨a, b, by rw [xs_seq, e0]; exact e⟩
end
/-! counts -/
def isI : D → Bool
  | .int _ => true
  | _ => false
def isC : D → Bool
  | .int i => decide (0 ≤ i)
  | _ => false
section
variable {n : Nat} {μ : Sto}
theorem s_isInt (d : D) : VM.run T (n + 1) 0 [.dat d] μ = .ok (.dat (.bl (isI d))) μ := by
  rw [run_at (nl := 1) (b := P_is_integer) (by rfl)]
  unfold P_is_integer
  cases d <;> simp [startE, isi, callEnd, EV.out, isI]
theorem s_isCount (d : D) : VM.run T (n + 2) 1 [.dat d] μ = .ok (.dat (.bl (isC d))) μ := by
  rw [run_at (nl := 1) (b := P_is_count) (by rfl)]
  unfold P_is_count
  cases d <;> simp [startE, s_isInt, isI, callEnd, EV.out, isC, opCmp, VM.opI]
theorem l_isCount (d : D) : VM.run T (n + 1) 25 [.dat d] μ = .ok (.dat (.bl (isC d))) μ := by
  rw [run_at (nl := 1) (b := P__law_is_count) (by rfl)]
  unfold P__law_is_count
  cases d <;> simp [startE, isi, callEnd, EV.out, isC, opCmp, VM.opI]
end
end K51
set_option maxHeartbeats 0
/-! k51: names in shapes. -/
namespace K51
open VM Law
open L2 (atI ixN)
theorem whL_two {c : Env → Sto → Res Bool} {b : Env → Sto → Res SO} {ρ ρ1 : Env} {μ μ1 : Sto} (h1 : c ρ μ = .ok true μ) (h2 : b ρ μ = .ok (.nx ρ1) μ1) (h3 : c ρ1 μ1 = .ok false μ1) : whL c b LIM ρ μ = .ok (.nx ρ1) μ1 := by
  rw [show LIM = 999998 + 1 + 1 from rfl]
  unfold whL
  rw [h1]
  simp only [Res.bind_ok, h2]
  unfold whL
  rw [h3]
  rfl
theorem whL_one {c : Env → Sto → Res Bool} {b : Env → Sto → Res SO} {ρ : Env} {μ : Sto} (h1 : c ρ μ = .ok false μ) : whL c b LIM ρ μ = .ok (.nx ρ) μ := by
  rw [show LIM = 999999 + 1 from rfl]
  unfold whL
  rw [h1]
  rfl
def nm : Fin 6 → PySem.Str
  | 0 => "a" | 1 => "g" | 2 => "p" | 3 => "name1234" | 4 => "zz1" | 5 => "A"
def nmN (k : Fin 6) : Bool := decide (k.val < 5)
def nmP (k : Fin 6) : Bool := decide (k.val < 4)
def t0 (k : Fin 6) : D := .tup [.str (nm k), .tup []]
section
variable {n : Nat} {μ : Sto}
theorem s_isName : ∀ k : Fin 6, VM.run T (n + 1) 2 [.dat (.str (nm k))] μ = .ok (.dat (.bl (nmN k))) μ
  | 0 => pure_of (by kernel_rfl) | 1 => pure_of (by kernel_rfl) | 2 => pure_of (by kernel_rfl) | 3 => pure_of (by kernel_rfl) | 4 => pure_of (by kernel_rfl) | 5 => pure_of (by kernel_rfl)
theorem l_isName : ∀ k : Fin 6, VM.run T (n + 1) 26 [.dat (.str (nm k))] μ = .ok (.dat (.bl (nmP k))) μ
  | 0 => pure_of (by kernel_rfl) | 1 => pure_of (by kernel_rfl) | 2 => pure_of (by kernel_rfl) | 3 => pure_of (by kernel_rfl) | 4 => pure_of (by kernel_rfl) | 5 => pure_of (by kernel_rfl)
theorem n_var : ∀ k : Fin 6, nmN k = true → VM.run T (n + 1) 3 [.dat (.str (nm k))] μ = .ok (.dat (.bl false)) μ
  | 0, _ => pure_of (by kernel_rfl) | 1, _ => pure_of (by kernel_rfl) | 2, _ => pure_of (by kernel_rfl) | 3, _ => pure_of (by kernel_rfl) | 4, _ => pure_of (by kernel_rfl) | 5, h => nomatch h
theorem n_head (k : Fin 6) (h : nmN k = true) : VM.run T (n + 2) 4 [.dat (.str (nm k))] μ = .ok (.dat (.bl true)) μ := by
  rw [run_at (nl := 1) (b := P_is_head) (by rfl)]
  unfold P_is_head
  simp [startE, s_isName, h, callEnd, EV.out]
theorem t_var (k : Fin 6) : VM.run T (n + 1) 3 [.dat (t0 k)] μ = .ok (.dat (.bl false)) μ := by
  rw [run_at (nl := 2) (b := P_is_variable) (by rfl)]
  unfold P_is_variable
  simp [startE, isi, t0, callEnd, EV.out]
theorem t_app (k : Fin 6) : VM.run T (n + 1) 6 [.dat (t0 k)] μ = .ok (.dat (.bl true)) μ := by
  rw [run_at (nl := 1) (b := P_is_applied) (by rfl)]
  unfold P_is_applied
  have e : opCmp .Eq (.int 2) (.int 2) = some true := by rfl
  simp [startE, isi, t0, bLen, e, callEnd, EV.out]
theorem ne_nil (l : List D) : opCmp .NotEq (.lst l) (.lst []) = some (!l.isEmpty) := by
  cases l with
  | nil => rfl
  | cons a l =>
    by_cases h : (fits 64 (.lst (a :: l)) && fits 64 (.lst [])) = true
    · simp [opCmp, opEq, opEq0, txEq, h, eqv, eqvs]
    · simp [opCmp, opEq, opEq0, txEq, h, lenNe]
theorem pop1 {d : D} : aPop [d] [] = some (d, []) := by rfl
theorem s_st (k : Fin 6) (h : nmN k = true) : VM.run T (n + 3) 7 [.dat (t0 k)] μ = .ok (.new (.lst [])) μ := by
  rw [run_at (nl := 7) (b := P_standings) (by rfl)]
  unfold P_standings
  have w : whL (bCmp (opCmp .NotEq) (eV 2) (eLst (evs [])) (VM.run T (n + 2))) ((sSeq (sAsg (eCM aPop (eV 2) (evs [])) (gTp [gNm 3, gNm 4])) (sIf (bTru (eCall 3 (evs [eV 3]))) (sDrop (eCM aAppend (eV 1) (evs [eTup (evs [eC (.str "term"), eV 3])]))) (sIf (bAnd (bTru (eV 4)) (bTru (eCall 5 (evs [eV 3])))) (sDrop (eCM aAppend (eV 1) (evs [eTup (evs [eC (.str "rest"), eSl (eV 3) (oSome (eC (.int 1))) (oNone)])]))) (sIf (bAnd (bTru (eCall 6 (evs [eV 3]))) (bAnd (bTru (eCall 4 (evs [eIx (eV 3) (eC (.int 0))]))) (bTru (eIsi .tuple (eIx (eV 3) (eC (.int 1))))))) (sSeq (sIf (bTru (eCall 3 (evs [eIx (eV 3) (eC (.int 0))]))) (sDrop (eCM aAppend (eV 1) (evs [eTup (evs [eC (.str "head"), eIx (eV 3) (eC (.int 0))])]))) (sPass)) (sSeq (sSet 5 (eBin .Sub (eCb bLen (evs [eIx (eV 3) (eC (.int 1))])) (eC (.int 1)))) (sDrop (eCM aExtend (eV 2) (evs [eLc (iRange (evs [eV 5, eNeg (eC (.int 1)), eNeg (eC (.int 1))])) (.nm 6) (bYes) (eTup (evs [eIx (eIx (eV 3) (eC (.int 1))) (eV 6), eCmp (opCmp .Eq) (eV 6) (eV 5)])) [6]]))))) (sIf (bNot (bTru (eCall 0 (evs [eV 3])))) (sRet (eC .non)) (sPass)))))) (VM.run T (n + 2))) LIM [some (.dat (t0 k)), some (.cel μ.length), some (.cel (μ.length + 1)), none, none, none, none] (μ ++ [⟨true, .lst []⟩, ⟨true, .lst [.tup [t0 k, .bl false]]⟩]) =
      .ok (.nx [some (.dat (t0 k)), some (.cel μ.length), some (.cel (μ.length + 1)), some (.dat (t0 k)), some (.dat (.bl false)), some (.dat (.int (-1))), none]) (μ ++ [⟨true, .lst []⟩, ⟨true, .lst []⟩]) := by
    have v2 : ∀ L : List D, (EV.cel (μ.length + 1)).see (μ ++ [⟨true, .lst []⟩, ⟨true, .lst L⟩]) = some (.lst L) := fun L => by simp [EV.see]
    refine whL_two ?_ ?_ ?_
    · have := ne_nil [.tup [t0 k, .bl false]]
      simp at this
      simp [v2, this]
    · have i0 : opIx (t0 k) (.int 0) = some (.dat (.str (nm k))) := ix0
      have i1 : opIx (t0 k) (.int 1) = some (.dat (.tup [])) := ix1
      have sb : opBin .Sub (.int 0) (.int 1) = some (.dat (.int (-1))) := by rfl
      have rg : rangeOf [.dat (.int (-1)), .dat (.int (-1)), .dat (.int (-1))] = some (.vals []) := by rfl
      have ng : (eNeg (eC (.int 1)) : SE) = fun F ρ X => .ok (.dat (.int (-1))) X := by rfl
      have a1 := t_var (n := n + 1) (μ := μ ++ [⟨true, .lst []⟩, ⟨true, .lst []⟩]) k
      have a2 := t_app (n := n + 1) (μ := μ ++ [⟨true, .lst []⟩, ⟨true, .lst []⟩]) k
      have a3 := n_head (n := n) (μ := μ ++ [⟨true, .lst []⟩, ⟨true, .lst []⟩]) k h
      have a4 := n_var (n := n + 1) (μ := μ ++ [⟨true, .lst []⟩, ⟨true, .lst []⟩]) k h
      have lc : ∀ s, lcLoop (.vals []) s 1 0 (μ ++ [⟨true, .lst []⟩, ⟨true, .lst []⟩]) = .ok [] (μ ++ [⟨true, .lst []⟩, ⟨true, .lst []⟩]) := fun s => by
        unfold lcLoop; rfl
      have ex : aExtend [] [.lst []] = some (.non, []) := by rfl
      simp only [ng]
      generalize t0 k = tt at *
      simp [pop1, a1, a2, i0, a3, i1, isi, a4, bLen, sb, rg, lc, ex]
    · have := ne_nil []
      simp at this
      simp [v2, this]
  have hP : ∀ F : Fns, ∀ X : Sto, ((sWhile (bCmp (opCmp .NotEq) (eV 2) (eLst (evs []))) (sSeq (sAsg (eCM aPop (eV 2) (evs [])) (gTp [gNm 3, gNm 4])) (sIf (bTru (eCall 3 (evs [eV 3]))) (sDrop (eCM aAppend (eV 1) (evs [eTup (evs [eC (.str "term"), eV 3])]))) (sIf (bAnd (bTru (eV 4)) (bTru (eCall 5 (evs [eV 3])))) (sDrop (eCM aAppend (eV 1) (evs [eTup (evs [eC (.str "rest"), eSl (eV 3) (oSome (eC (.int 1))) (oNone)])]))) (sIf (bAnd (bTru (eCall 6 (evs [eV 3]))) (bAnd (bTru (eCall 4 (evs [eIx (eV 3) (eC (.int 0))]))) (bTru (eIsi .tuple (eIx (eV 3) (eC (.int 1))))))) (sSeq (sIf (bTru (eCall 3 (evs [eIx (eV 3) (eC (.int 0))]))) (sDrop (eCM aAppend (eV 1) (evs [eTup (evs [eC (.str "head"), eIx (eV 3) (eC (.int 0))])]))) (sPass)) (sSeq (sSet 5 (eBin .Sub (eCb bLen (evs [eIx (eV 3) (eC (.int 1))])) (eC (.int 1)))) (sDrop (eCM aExtend (eV 2) (evs [eLc (iRange (evs [eV 5, eNeg (eC (.int 1)), eNeg (eC (.int 1))])) (.nm 6) (bYes) (eTup (evs [eIx (eIx (eV 3) (eC (.int 1))) (eV 6), eCmp (opCmp .Eq) (eV 6) (eV 5)])) [6]]))))) (sIf (bNot (bTru (eCall 0 (evs [eV 3])))) (sRet (eC .non)) (sPass))))))) : SS) F [some (.dat (t0 k)), some (.cel μ.length), some (.cel (μ.length + 1)), none, none, none, none] X = whL (bCmp (opCmp .NotEq) (eV 2) (eLst (evs [])) F) ((sSeq (sAsg (eCM aPop (eV 2) (evs [])) (gTp [gNm 3, gNm 4])) (sIf (bTru (eCall 3 (evs [eV 3]))) (sDrop (eCM aAppend (eV 1) (evs [eTup (evs [eC (.str "term"), eV 3])]))) (sIf (bAnd (bTru (eV 4)) (bTru (eCall 5 (evs [eV 3])))) (sDrop (eCM aAppend (eV 1) (evs [eTup (evs [eC (.str "rest"), eSl (eV 3) (oSome (eC (.int 1))) (oNone)])]))) (sIf (bAnd (bTru (eCall 6 (evs [eV 3]))) (bAnd (bTru (eCall 4 (evs [eIx (eV 3) (eC (.int 0))]))) (bTru (eIsi .tuple (eIx (eV 3) (eC (.int 1))))))) (sSeq (sIf (bTru (eCall 3 (evs [eIx (eV 3) (eC (.int 0))]))) (sDrop (eCM aAppend (eV 1) (evs [eTup (evs [eC (.str "head"), eIx (eV 3) (eC (.int 0))])]))) (sPass)) (sSeq (sSet 5 (eBin .Sub (eCb bLen (evs [eIx (eV 3) (eC (.int 1))])) (eC (.int 1)))) (sDrop (eCM aExtend (eV 2) (evs [eLc (iRange (evs [eV 5, eNeg (eC (.int 1)), eNeg (eC (.int 1))])) (.nm 6) (bYes) (eTup (evs [eIx (eIx (eV 3) (eC (.int 1))) (eV 6), eCmp (opCmp .Eq) (eV 6) (eV 5)])) [6]]))))) (sIf (bNot (bTru (eCall 0 (evs [eV 3])))) (sRet (eC .non)) (sPass)))))) F) LIM [some (.dat (t0 k)), some (.cel μ.length), some (.cel (μ.length + 1)), none, none, none, none] X := fun F X => rfl
  have s0 : ((sPar 1 2 (eLst (evs [])) (eLst (evs [eTup (evs [eV 0, eC (.bl false)])]))) : SS) (VM.run T (n + 2)) (startE 7 [.dat (t0 k)]) μ = .ok (.nx [some (.dat (t0 k)), some (.cel μ.length), some (.cel (μ.length + 1)), none, none, none, none]) (μ ++ [⟨true, .lst []⟩, ⟨true, .lst [.tup [t0 k, .bl false]]⟩]) := by
    simp [startE]
  rw [xs_seq, s0]
  simp only [xs_seq]
  rw [hP, w]
  simp [callEnd, EV.out]
theorem s_pc (k : Fin 6) : VM.run T (n + 2) 9 [.dat (t0 k)] μ = .ok (.new (.lst [.tup [t0 k, .int 1]])) μ := by
  rw [run_at (nl := 6) (b := P_pieces) (by rfl)]
  unfold P_pieces
  have w : whL (bCmp (opCmp .NotEq) (eV 2) (eLst (evs [])) (VM.run T (n + 1))) ((sSeq (sAsg (eCM aPop (eV 2) (evs [])) (gTp [gNm 3, gNm 4])) (sSeq (sDrop (eCM aAppend (eV 1) (evs [eTup (evs [eV 3, eV 4])]))) (sIf (bTru (eCall 6 (evs [eV 3]))) (sDrop (eCM aExtend (eV 2) (evs [eLc (iOf (eRev (eIx (eV 3) (eC (.int 1))))) (.nm 5) (bYes) (eTup (evs [eV 5, eBin .Add (eV 4) (eC (.int 1))])) [5]]))) (sPass)))) (VM.run T (n + 1))) LIM [some (.dat (t0 k)), some (.cel μ.length), some (.cel (μ.length + 1)), none, none, none] (μ ++ [⟨true, .lst []⟩, ⟨true, .lst [.tup [t0 k, .int 1]]⟩]) =
      .ok (.nx [some (.dat (t0 k)), some (.cel μ.length), some (.cel (μ.length + 1)), some (.dat (t0 k)), some (.dat (.int 1)), none]) (μ ++ [⟨true, .lst [.tup [t0 k, .int 1]]⟩, ⟨true, .lst []⟩]) := by
    have v2 : ∀ L L2 : List D, (EV.cel (μ.length + 1)).see (μ ++ [⟨true, .lst L2⟩, ⟨true, .lst L⟩]) = some (.lst L) := fun L L2 => by simp [EV.see]
    refine whL_two ?_ ?_ ?_
    · have := ne_nil [.tup [t0 k, .int 1]]
      simp at this
      simp [v2, this]
    · have i1 : opIx (t0 k) (.int 1) = some (.dat (.tup [])) := ix1
      have a2 := t_app (n := n) (μ := μ ++ [⟨true, .lst [.tup [t0 k, .int 1]]⟩, ⟨true, .lst []⟩]) k
      have lc : ∀ s X, lcLoop (.vals []) s 1 0 X = .ok [] X := fun s X => by
        unfold lcLoop; rfl
      have ex : aExtend [] [.lst []] = some (.non, []) := by rfl
      have ap : ∀ d, aAppend [] [d] = some (.non, [d]) := fun d => by rfl
      generalize t0 k = tt at *
      simp [pop1, ap, a2, i1, lc, ex]
    · have := ne_nil []
      simp at this
      simp [v2, this]
  have hP : ∀ F : Fns, ∀ X : Sto, ((sWhile (bCmp (opCmp .NotEq) (eV 2) (eLst (evs []))) (sSeq (sAsg (eCM aPop (eV 2) (evs [])) (gTp [gNm 3, gNm 4])) (sSeq (sDrop (eCM aAppend (eV 1) (evs [eTup (evs [eV 3, eV 4])]))) (sIf (bTru (eCall 6 (evs [eV 3]))) (sDrop (eCM aExtend (eV 2) (evs [eLc (iOf (eRev (eIx (eV 3) (eC (.int 1))))) (.nm 5) (bYes) (eTup (evs [eV 5, eBin .Add (eV 4) (eC (.int 1))])) [5]]))) (sPass))))) : SS) F [some (.dat (t0 k)), some (.cel μ.length), some (.cel (μ.length + 1)), none, none, none] X = whL (bCmp (opCmp .NotEq) (eV 2) (eLst (evs [])) F) ((sSeq (sAsg (eCM aPop (eV 2) (evs [])) (gTp [gNm 3, gNm 4])) (sSeq (sDrop (eCM aAppend (eV 1) (evs [eTup (evs [eV 3, eV 4])]))) (sIf (bTru (eCall 6 (evs [eV 3]))) (sDrop (eCM aExtend (eV 2) (evs [eLc (iOf (eRev (eIx (eV 3) (eC (.int 1))))) (.nm 5) (bYes) (eTup (evs [eV 5, eBin .Add (eV 4) (eC (.int 1))])) [5]]))) (sPass)))) F) LIM [some (.dat (t0 k)), some (.cel μ.length), some (.cel (μ.length + 1)), none, none, none] X := fun F X => rfl
  have s0 : ((sPar 1 2 (eLst (evs [])) (eLst (evs [eTup (evs [eV 0, eC (.int 1)])]))) : SS) (VM.run T (n + 1)) (startE 6 [.dat (t0 k)]) μ = .ok (.nx [some (.dat (t0 k)), some (.cel μ.length), some (.cel (μ.length + 1)), none, none, none]) (μ ++ [⟨true, .lst []⟩, ⟨true, .lst [.tup [t0 k, .int 1]]⟩]) := by
    simp [startE]
  rw [xs_seq, s0]
  simp only [xs_seq]
  rw [hP, w]
  simp [callEnd, EV.out]
end
end K51
set_option maxHeartbeats 0
/-! k51: names in shapes; paths whose hashes differ. -/
namespace K51
open VM Law
open L2 (atI ixN)
def n2B (k : Fin 6) : Bool := match opSl (.str (nm k)) none (some 2) with
  | some (.dat (.str y)) => (match opCmp .Eq (.str y) (.str "zz") with | some b => b == !nmP k | none => false) || !nmN k
  | _ => false
theorem n2_all : ∀ k : Fin 6, n2B k = true := by decide +kernel
theorem n_cut (k : Fin 6) (h : nmN k = true) : ∃ y : PySem.Str, opSl (.str (nm k)) none (some 2) = some (.dat (.str y)) ∧ opCmp .Eq (.str y) (.str "zz") = some (!nmP k) := by
  have := n2_all k
  unfold n2B at this
  split at this
  · rename_i y e
    split at this
    · rename_i b e2
      refine ⟨y, e, ?_⟩
      rw [h] at this
      rw [e2]
      simp at this
      rw [this]
    · rw [h] at this; cases this
  · cases this
section
variable {n : Nat} {μ : Sto}
theorem t_int (k : Fin 6) : VM.run T (n + 1) 0 [.dat (t0 k)] μ = .ok (.dat (.bl false)) μ := s_isInt _
theorem s_term (k : Fin 6) (h : nmN k = true) : VM.run T (n + 4) 12 [.dat (t0 k)] μ = .ok (.dat (.bl true)) μ := by
  rw [run_at (nl := 2) (b := P_is_term) (by rfl)]
  unfold P_is_term
  have e1 := s_st (n := n) (μ := μ) k h
  have e2 : VM.run T (n + 3) 8 [.cel μ.length] (μ ++ [⟨true, .lst []⟩]) = .ok (.dat (.bl true)) (μ ++ [⟨true, .lst []⟩]) := by
    rw [run_at (nl := 4) (b := P_have_one_sort) (by rfl)]
    unfold P_have_one_sort
    have lc : ∀ s X, (X : Sto)[μ.length]? = some ⟨true, .lst []⟩ → lcLoop (.cell μ.length) s 1 0 X = .ok [] X := fun s X hX => by
      unfold lcLoop
      simp [Src.at, hX]
    have so : srcOf (.cel μ.length) (μ ++ [⟨true, .lst []⟩, ⟨true, .dic [] []⟩]) = some (.cell μ.length) := by simp [srcOf]
    have sl : (Src.cell μ.length).len (μ ++ [⟨true, .lst []⟩, ⟨true, .dic [] []⟩]) = 0 := by simp [Src.len, Src.at]
    have lc1 := fun s => lc s (μ ++ [⟨true, .lst []⟩, ⟨true, .dic [] []⟩]) (by simp)
    have ba : bAll [.lst []] = some (.dat (.bl true)) := by rfl
    have tk : List.take (μ.length + 1) (μ ++ [⟨true, .lst []⟩, ⟨true, .dic [] []⟩]) = μ ++ [⟨true, .lst []⟩] := by
      rw [List.take_append]; simp; exact List.take_of_length_le (by omega)
    simp [startE, so, sl, lc1, ba, callEnd, EV.out, tk]
  have v1 : (EV.cel μ.length).see (μ ++ [⟨true, .lst []⟩]) = some (.lst []) := by simp [EV.see]
  have e3 : opCmp .IsNot (.lst []) .non = some true := by rfl
  simp [startE, e1, e2, v1, e3, callEnd, EV.out]
theorem s_numbers (k : Fin 6) : VM.run T (n + 3) 10 [.dat (t0 k)] μ = .ok (.new (.lst [])) μ := by
  rw [run_at (nl := 3) (b := P_numbers_of) (by rfl)]
  unfold P_numbers_of
  have e1 := s_pc (n := n) (μ := μ) k
  have e2 := t_int (n := n + 1) (μ := μ) k
  have fs : fSset [.lst []] = some (.new (.lst [])) := by rfl
  generalize t0 k = tt at *
  have lc := lc_pure (s := [.tup [tt, .int 1]]) (step := lcStep (VM.run T (n + 2)) (.tup [.nm 1, .nm 2]) (bTru (eCall 0 (evs [eV 1]))) (eV 1) [some (.dat tt), none, none]) (g := fun _ => none) (μ := μ) (by
    intro d hd
    rw [List.mem_singleton.mp hd]
    simp [asg, asgs, e2]) 2 0 (by simp) (by simp) (lim1 (by simp))
  simp [startE, e1, wipeE, lc, fs, callEnd, EV.out]
theorem s_names (k : Fin 6) (h : nmN k = true) : VM.run T (n + 3) 11 [.dat (t0 k)] μ = .ok (.new (.lst [.str (nm k)])) μ := by
  rw [run_at (nl := 3) (b := P_names_of) (by rfl)]
  unfold P_names_of
  have e1 := s_pc (n := n) (μ := μ) k
  have e2 := t_app (n := n + 1) (μ := μ) k
  have e3 := s_isName (n := n + 1) (μ := μ) k
  rw [h] at e3
  have i0 : opIx (t0 k) (.int 0) = some (.dat (.str (nm k))) := ix0
  have fs : fSset [.lst [.str (nm k)]] = some (.new (.lst [.str (nm k)])) := by
    simp [fSset, intsD, strsD, sortU, insU]
  generalize t0 k = tt at *
  have lc := lc_pure (s := [.tup [tt, .int 1]]) (step := lcStep (VM.run T (n + 2)) (.tup [.nm 1, .nm 2]) (bAnd (bTru (eCall 6 (evs [eV 1]))) (bTru (eCall 2 (evs [eIx (eV 1) (eC (.int 0))])))) (eIx (eV 1) (eC (.int 0))) [some (.dat tt), none, none]) (g := fun _ => some (.str (nm k))) (μ := μ) (by
    intro d hd
    rw [List.mem_singleton.mp hd]
    simp [asg, asgs, e2, i0, e3]) 2 0 (by simp) (by simp) (lim1 (by simp))
  simp at lc
  simp [startE, e1, wipeE, lc, fs, callEnd, EV.out]
theorem s_pat (k : Fin 6) (h : nmN k = true) : VM.run T (n + 5) 13 [.dat (t0 k)] μ = .ok (.dat (.bl (nmP k))) μ := by
  rw [run_at (nl := 4) (b := P_is_pattern) (by rfl)]
  unfold P_is_pattern
  have e1 := s_term (n := n) (μ := μ) k h
  have e2 := s_numbers (n := n + 1) (μ := μ) k
  have e3 := s_names (n := n + 1) (μ := μ) k h
  obtain ⟨y, y1, y2⟩ := n_cut k h
  have lc : ∀ s X, lcLoop (.vals []) s 1 0 X = .ok [] X := fun s X => by unfold lcLoop; rfl
  have ba : bAll [.lst []] = some (.dat (.bl true)) := by rfl
  have bn : bAny [.lst [.bl (!nmP k)]] = some (.dat (.bl (!nmP k))) := by cases nmP k <;> rfl
  have lc2 := lc_map (s := [.str (nm k)]) (step := lcStep (VM.run T (n + 4)) (.nm 3) bYes (eCmp (opCmp .Eq) (eSl (eV 3) (oNone) (oSome (eC (.int 2)))) (eC (.str "zz"))) [some (.dat (t0 k)), some (.dat (.bl true)), none, none]) (g := fun _ => .bl (!nmP k)) (μ := μ) (by
    intro d hd
    rw [List.mem_singleton.mp hd]
    simp [asg, oNone, oSome, y1, y2]) (lim1 (by simp))
  simp at lc2
  generalize t0 k = tt at *
  simp [startE, e1, e2, e3, wipeE, lc, ba, lc2, bn, callEnd, EV.out]
end
/-! paths -/
inductive Bt where
  | lf
  | nd (l : Bt) (v : Nat) (r : Bt)
def Bt.fnd (x : Nat) : Bt → Bool
  | .lf => false
  | .nd l v r => if x = v then true else if x < v then l.fnd x else r.fnd x
def Bt.ins (x : Nat) : Bt → Option Bt
  | .lf => some (.nd .lf x .lf)
  | .nd l v r => if x = v then none else if x < v then (match l.ins x with | some l' => some (.nd l' v r) | none => none) else (match r.ins x with | some r' => some (.nd l v r') | none => none)
def Bt.all : Bt → List Nat → Bool
  | _, [] => true
  | t, x :: xs => match t.ins x with
    | some t' => t'.all xs
    | none => false
theorem Bt.ins_fnd {x : Nat} : ∀ {t t' : Bt}, t.ins x = some t' → t'.fnd x = true
  | .lf, t', h => by cases h; simp [Bt.fnd]
  | .nd l v r, t', h => by
    unfold Bt.ins at h
    by_cases h1 : x = v
    · rw [if_pos h1] at h; cases h
    · rw [if_neg h1] at h
      by_cases h2 : x < v
      · rw [if_pos h2] at h
        cases e : l.ins x with
        | none => rw [e] at h; cases h
        | some l' => rw [e] at h; cases h; simp only [Bt.fnd]; rw [if_neg h1, if_pos h2]; exact Bt.ins_fnd e
      · rw [if_neg h2] at h
        cases e : r.ins x with
        | none => rw [e] at h; cases h
        | some l' => rw [e] at h; cases h; simp only [Bt.fnd]; rw [if_neg h1, if_neg h2]; exact Bt.ins_fnd e
theorem Bt.ins_keep {x y : Nat} : ∀ {t t' : Bt}, t.ins x = some t' → t.fnd y = true → t'.fnd y = true
  | .lf, t', h, g => by cases g
  | .nd l v r, t', h, g => by
    unfold Bt.ins at h
    unfold Bt.fnd at g
    by_cases h1 : x = v
    · rw [if_pos h1] at h; cases h
    · rw [if_neg h1] at h
      by_cases h2 : x < v
      · rw [if_pos h2] at h
        cases e : l.ins x with
        | none => rw [e] at h; cases h
        | some l' =>
          rw [e] at h; cases h
          unfold Bt.fnd
          by_cases q : y = v
          · rw [if_pos q]
          · rw [if_neg q] at g ⊢
            by_cases q2 : y < v
            · rw [if_pos q2] at g ⊢; exact Bt.ins_keep e g
            · rw [if_neg q2] at g ⊢; exact g
      · rw [if_neg h2] at h
        cases e : r.ins x with
        | none => rw [e] at h; cases h
        | some l' =>
          rw [e] at h; cases h
          unfold Bt.fnd
          by_cases q : y = v
          · rw [if_pos q]
          · rw [if_neg q] at g ⊢
            by_cases q2 : y < v
            · rw [if_pos q2] at g ⊢; exact g
            · rw [if_neg q2] at g ⊢; exact Bt.ins_keep e g
theorem Bt.ins_none {x : Nat} : ∀ {t : Bt}, t.fnd x = true → t.ins x = none
  | .lf, h => by cases h
  | .nd l v r, h => by
    unfold Bt.fnd at h
    unfold Bt.ins
    by_cases q : x = v
    · rw [if_pos q]
    · rw [if_neg q] at h ⊢
      by_cases q2 : x < v
      · rw [if_pos q2] at h ⊢; rw [Bt.ins_none h]
      · rw [if_neg q2] at h ⊢; rw [Bt.ins_none h]
theorem Bt.all_nd : ∀ {xs : List Nat} {t : Bt}, t.all xs = true → (∀ x ∈ xs, t.fnd x = false) ∧ xs.Nodup
  | [], t, _ => ⟨by simp, List.nodup_nil⟩
  | x :: xs, t, h => by
    unfold Bt.all at h
    cases e : t.ins x with
    | none => rw [e] at h; cases h
    | some t' =>
      rw [e] at h
      obtain ⟨h1, h2⟩ := Bt.all_nd h
      have fx : t.fnd x = false := by
        cases q : t.fnd x with
        | false => rfl
        | true => rw [Bt.ins_none q] at e; cases e
      refine ⟨fun y hy => ?_, List.nodup_cons.mpr ⟨fun hm => ?_, h2⟩⟩
      · rcases List.mem_cons.mp hy with rfl | hy
        · exact fx
        · cases q : t.fnd y with
          | false => rfl
          | true => have := Bt.ins_keep e q; rw [h1 y hy] at this; cases this
      · have := h1 x hm
        rw [Bt.ins_fnd e] at this; cases this
def dom1 : List (List Int) := (List.range 9).map fun i : Nat => [Int.ofNat i]
def ext (l : List (List Int)) : List (List Int) := l.flatMap fun p => [p ++ [0], p ++ [1], p ++ [2]]
def domN : Nat → List (List Int)
  | 0 => dom1
  | n + 1 => ext (domN n)
def dom : List (List Int) := domN 0 ++ domN 1 ++ domN 2 ++ domN 3 ++ domN 4 ++ domN 5
def hkey (p : List Int) : Nat := (hashI p + 9223372036854775808).toNat
theorem dom_apart : Bt.all .lf (dom.map hkey) = true := by decide +kernel
def inDom (p : List Int) : Bool := match p with
  | [] => false
  | a :: r => decide (0 ≤ a) && decide (a ≤ 8) && r.all (fun i => decide (0 ≤ i) && decide (i ≤ 2)) && decide (r.length ≤ 5)
theorem mem_ext {l : List (List Int)} {p : List Int} {i : Int} (h : p ∈ l) (h0 : 0 ≤ i) (h2 : i ≤ 2) : p ++ [i] ∈ ext l := by
  unfold ext
  refine List.mem_flatMap.mpr ⟨p, h, ?_⟩
  have : i = 0 ∨ i = 1 ∨ i = 2 := by omega
  rcases this with rfl | rfl | rfl <;> simp
theorem mem_domN : ∀ (m : Nat) (p : List Int) (n : Nat), p ∈ domN n → ∀ r : List Int, r.length = m → (∀ i ∈ r, 0 ≤ i ∧ i ≤ 2) → p ++ r ∈ domN (n + m)
  | 0, p, n, h, r, hr, _ => by
    rw [List.eq_nil_of_length_eq_zero hr, List.append_nil]; exact h
  | m + 1, p, n, h, [], hr, _ => by cases hr
  | m + 1, p, n, h, i :: r, hr, ha => by
    have h1 := ha i List.mem_cons_self
    have := mem_domN m (p ++ [i]) (n + 1) (mem_ext h h1.1 h1.2) r (by simpa using hr) fun j hj => ha j (List.mem_cons_of_mem _ hj)
    rw [List.append_assoc] at this
    rw [show n + (m + 1) = n + 1 + m by omega]
    exact this
theorem mem_dom {p : List Int} (h : inDom p = true) : p ∈ dom := by
  cases p with
  | nil => cases h
  | cons a r =>
    simp only [inDom, Bool.and_eq_true, decide_eq_true_eq, List.all_eq_true] at h
    obtain ⟨⟨⟨h1, h2⟩, h3⟩, h4⟩ := h
    have ha : [a] ∈ domN 0 := by
      refine List.mem_map.mpr ⟨a.toNat, List.mem_range.mpr (by omega), ?_⟩
      show [((a.toNat : Nat) : Int)] = [a]
      rw [Int.toNat_of_nonneg h1]
    have := mem_domN r.length [a] 0 ha r rfl h3
    rw [List.singleton_append, Nat.zero_add] at this
    unfold dom
    have hl : r.length = 0 ∨ r.length = 1 ∨ r.length = 2 ∨ r.length = 3 ∨ r.length = 4 ∨ r.length = 5 := by omega
    simp only [List.mem_append]
    rcases hl with e | e | e | e | e | e <;> rw [e] at this <;> simp [this]
theorem hash_inj {p q : List Int} (hp : inDom p = true) (hq : inDom q = true) (h : hashI p = hashI q) : p = q := by
  have nd := (Bt.all_nd dom_apart).2
  have e : hkey p = hkey q := by unfold hkey; rw [h]
  have inj : ∀ (l : List (List Int)), (l.map hkey).Nodup → ∀ a ∈ l, ∀ b ∈ l, hkey a = hkey b → a = b := by
    intro l
    induction l with
    | nil => intro _ a ha; cases ha
    | cons x l ih =>
      intro nd a ha b hb hab
      rw [List.map_cons, List.nodup_cons] at nd
      obtain ⟨nd1, nd2⟩ := nd
      rcases List.mem_cons.mp ha with ha | ha
      · rcases List.mem_cons.mp hb with hb | hb
        · rw [ha, hb]
        · exact absurd (List.mem_map.mpr ⟨b, hb, by rw [← hab, ha]⟩) nd1
      · rcases List.mem_cons.mp hb with hb | hb
        · exact absurd (List.mem_map.mpr ⟨a, ha, by rw [hab, hb]⟩) nd1
        · exact ih nd2 a ha b hb hab
  exact inj dom nd p (mem_dom hp) q (mem_dom hq) e
theorem apart_of : ∀ {l : List Int}, l.Nodup → apart l = true
  | [], _ => rfl
  | a :: r, h => by
    obtain ⟨h1, h2⟩ := List.nodup_cons.mp h
    simp only [apart, Bool.and_eq_true, Bool.not_eq_true', List.any_eq_false, beq_iff_eq]
    exact ⟨fun x hx e => h1 (e ▸ hx), apart_of h2⟩
theorem hashes_apart {l : List (List Int)} (h : ∀ p ∈ l, inDom p = true) (nd : l.Nodup) : apart (l.map hashI) = true := by
  refine apart_of ?_
  induction l with
  | nil => exact List.nodup_nil
  | cons a r ih =>
    obtain ⟨h1, h2⟩ := List.nodup_cons.mp nd
    rw [List.map_cons, List.nodup_cons]
    refine ⟨fun hm => ?_, ih (fun p hp => h p (List.mem_cons_of_mem _ hp)) h2⟩
    obtain ⟨q, hq, e⟩ := List.mem_map.mp hm
    have := hash_inj (h q (List.mem_cons_of_mem _ hq)) (h a List.mem_cons_self) e
    exact h1 (this ▸ hq)
end K51
set_option maxHeartbeats 0
/-! k51: what a tree is. -/
namespace K51
open VM Law
open L2 (atI ixN)
/-! counts in a row -/
def cts : List D → Option (List Int)
  | [] => some []
  | d :: ds => match d, cts ds with
    | .int i, some is => if 0 ≤ i then some (i :: is) else none
    | _, _ => none
theorem cts_eq : ∀ {ds : List D} {is : List Int}, cts ds = some is → ds = is.map .int ∧ ∀ i ∈ is, 0 ≤ i
  | [], is, h => by cases h; exact ⟨rfl, by simp⟩
  | d :: ds, is, h => by
    cases d <;> simp only [cts, reduceCtorEq] at h
    rename_i i
    cases e : cts ds with
    | none => rw [e] at h; cases h
    | some js =>
      rw [e] at h
      simp only at h
      split at h
      · rename_i h0
        cases h
        obtain ⟨h1, h2⟩ := cts_eq e
        exact ⟨by rw [h1]; rfl, fun j hj => (List.mem_cons.mp hj).elim (fun z => z ▸ h0) (h2 j)⟩
      · cases h
theorem cts_all : ∀ ds : List D, ds.all isC = (cts ds).isSome
  | [] => rfl
  | d :: ds => by
    rw [List.all_cons, cts_all ds]
    cases d <;> simp only [cts, isC, Bool.false_and, Option.isSome_none]
    rename_i i
    cases cts ds with
    | none => simp
    | some js =>
      by_cases h : 0 ≤ i <;> simp [h]
theorem cts_of : ∀ {is : List Int}, (∀ i ∈ is, 0 ≤ i) → cts (is.map .int) = some is
  | [], _ => rfl
  | i :: is, h => by
    simp only [List.map_cons, cts, cts_of fun j hj => h j (List.mem_cons_of_mem _ hj), h i List.mem_cons_self, if_true]
def rise : List Int → Bool
  | a :: b :: r => decide (a < b) && rise (b :: r)
  | _ => true
/-- words -/
def wd : Fin 5 → PySem.Str
  | 0 => "nearest" | 1 => "is" | 2 => "same" | 3 => "farthest" | 4 => "as"
def isW (w : PySem.Str) (k : Fin 5) : Bool := w.cps.toList == (wd k).cps.toList
/-- a leaf's positions -/
def lfP : D → Bool
  | .tup ps => match cts ps with
    | some is => is.all (fun i => decide (i < 40)) && rise is
    | none => false
  | _ => false
def isLf : D → Bool
  | .tup [.str w, p] => isW w 0 && lfP p
  | _ => false
def nmI (x : PySem.Str) : Option (Fin 6) := (List.finRange 6).find? fun k => (nm k).cps.toList == x.cps.toList
def isSh : D → Bool
  | .int i => decide (-999 ≤ i) && decide (i ≤ 999)
  | .tup [.str x, .int m] => (match nmI x with | some k => nmP k | none => false) && (decide (0 ≤ m) && decide (m ≤ 8))
  | _ => false
/-- how much is known behind each path -/
abbrev Kn := List Int → Int
def path (B : Kn) : D → Bool
  | .tup ps => match cts ps with
    | some [] => false
    | some (i :: is) => decide ((i :: is).getLast (by simp) < B (i :: is).dropLast)
    | none => false
  | _ => false
def pthI : D → List Int
  | .tup ps => (cts ps).getD []
  | _ => []
def upB (B : Kn) (p : List Int) (m : Int) : Kn := fun q => if q = p then max m (B q) else B q
def upS (B : Kn) (p s : D) : Kn := match s with
  | .tup [_, .int m] => upB B (pthI p) m
  | _ => B
def isTr : Kn → D → Bool
  | B, .tup [.str w, p, s, a, b] => if isW w 1 then path B p && (isSh s && (isTr (upS B p s) a && isTr B b)) else if isW w 2 then path B p && (path B s && (isTr B a && isTr B b)) else false
  | _, d => isLf d
/-! what is handed in -/
def wOk : D → Bool
  | .str w => (List.finRange 5).any fun k => isW w k
  | _ => true
def pOk : D → Bool
  | .tup ps => fits 64 (.tup ps) && decide (ps.length ≤ 60) && match cts ps with
    | some (i :: is) => inDom (i :: is)
    | _ => true
  | _ => true
def sOk : D → Bool
  | .tup [.str x, _] => (nmI x).isSome
  | .tup ps => decide (ps.length ≤ 60)
  | _ => true
def lOk : D → Bool
  | .tup ps => decide (ps.length ≤ 200)
  | _ => true
def gv : D → Bool
  | .tup [w, p, s, a, b] => fits 64 (.tup [w, p, s, a, b]) && (wOk w && (pOk p && (pOk s && (sOk s && (gv a && gv b)))))
  | .tup [w, x] => fits 64 (.tup [w, x]) && (wOk w && lOk x)
  | .tup (w :: r) => fits 64 (.tup (w :: r)) && (wOk w && decide (r.length ≤ 60))
  | _ => true
/-- how many tests -/
def tn : D → Nat
  | .tup [_, _, _, a, b] => 1 + tn a + tn b
  | _ => 1
def td : D → Nat
  | .tup [_, _, _, a, b] => 1 + max (td a) (td b)
  | _ => 1
theorem tn_pos (d : D) : 1 ≤ tn d := by
  unfold tn; split <;> omega
theorem isW_eq {w : PySem.Str} {k : Fin 5} (h : isW w k = true) : w = wd k := by
  unfold isW at h
  rw [beq_iff_eq] at h
  cases w with
  | mk c =>
    have : c = (wd k).cps := Array.toList_inj.mp h
    rw [this]
theorem isW_wd (k j : Fin 5) : isW (wd k) j = decide (k = j) := by revert k j; decide +kernel
theorem wOk_eq {w : PySem.Str} (h : wOk (.str w) = true) : ∃ k, w = wd k := by
  simp only [wOk, List.any_eq_true] at h
  obtain ⟨k, _, e⟩ := h
  exact ⟨k, isW_eq e⟩
theorem nmI_eq {x : PySem.Str} {k : Fin 6} (h : nmI x = some k) : x = nm k := by
  unfold nmI at h
  have := List.find?_some h
  rw [beq_iff_eq] at this
  cases x with
  | mk c =>
    have : (nm k).cps = c := Array.toList_inj.mp this
    rw [← this]
theorem nmI_nm (k : Fin 6) : nmI (nm k) = some k := by revert k; decide +kernel
end K51
set_option maxHeartbeats 0
/-! k51: leaves, shapes. -/
namespace K51
open VM Law
open L2 (atI ixN)
theorem lc_mapE {α : Type} {enc : α → D} {step : D → Sto → Res (Option D)} {f : α → D} {μ : Sto} : ∀ (Q : List α), (∀ q ∈ Q, step (enc q) μ = .ok (some (f q)) μ) → Q.length ≤ LIM → lcLoop (.vals (Q.map enc)) step (Q.length + 1) 0 μ = .ok (Q.map f) μ := by
  intro Q h hl
  have key : ∀ (n i : Nat), i ≤ Q.length → Q.length < i + n → lcLoop (.vals (Q.map enc)) step n i μ = .ok ((Q.drop i).map f) μ := by
    intro n
    induction n with
    | zero => intro i h1 h2; omega
    | succ n ih =>
      intro i h1 h2
      unfold lcLoop
      simp only [src_vals, List.getElem?_map]
      cases e : Q[i]? with
      | none =>
        have : Q.length ≤ i := List.getElem?_eq_none_iff.mp e
        rw [List.drop_eq_nil_of_le this]; rfl
      | some q =>
        obtain ⟨hi, eq⟩ := List.getElem?_eq_some_iff.mp e
        simp only [Option.map_some]
        rw [if_pos (by omega), h q (List.mem_of_getElem? e), Res.bind_ok, ih (i + 1) (by omega) (by omega), Res.bind_ok]
        rw [List.drop_eq_getElem_cons hi, eq]
        rfl
  exact key (Q.length + 1) 0 (Nat.zero_le _) (by omega)
theorem bls_mapB {α : Type} (f : α → Bool) : ∀ l : List α, bls (l.map fun p => .bl (f p)) = some (l.map f)
  | [] => rfl
  | a :: l => by simp only [List.map_cons, bls, bls_mapB f l, Option.map_some]
theorem bAll_map {α : Type} (f : α → Bool) (l : List α) : bAll [.lst (l.map fun p => .bl (f p))] = some (.dat (.bl (l.all f))) := by
  simp only [bAll, bls_mapB, Option.map_some]
  congr 3
  rw [List.all_map]; rfl
theorem bAny_map {α : Type} (f : α → Bool) (l : List α) : bAny [.lst (l.map fun p => .bl (f p))] = some (.dat (.bl (l.any f))) := by
  simp only [bAny, bls_mapB, Option.map_some]
  congr 3
  rw [List.any_map]; rfl
theorem opEq_int (i j : Int) : opEq (.int i) (.int j) = some (i == j) := by simp [opEq, opEq0, txEq, fits, eqv]
theorem opEq_str (x y : PySem.Str) : opEq (.str x) (.str y) = some (x.cps.toList == y.cps.toList) := by simp [opEq, opEq0, txEq]
theorem bLen_tup (ds : List D) : bLen [.tup ds] = some (.dat (.int (ds.length : Nat))) := rfl
theorem isi_tup {ds : List D} : isi .tuple (.tup ds) = true := rfl
theorem isi_str {s : PySem.Str} : isi .str (.str s) = true := rfl
theorem isLf_len : ∀ ds : List D, ds.length ≠ 2 → isLf (.tup ds) = false := fun ds h => by
  unfold isLf
  split
  · rename_i e; cases e; simp at h
  · rfl
def c40 : D → Bool
  | .int i => decide (0 ≤ i) && decide (i < 40)
  | _ => false
theorem c40_eq (d : D) : c40 d = (isC d && match d with | .int i => decide (i < 40) | _ => false) := by cases d <;> simp [c40, isC]
theorem c40_all : ∀ ps : List D, ps.all c40 = (match cts ps with | some is => is.all (fun i => decide (i < 40)) | none => false)
  | [] => rfl
  | d :: ps => by
    rw [List.all_cons, c40_all ps]
    cases d <;> simp only [cts, c40, Bool.false_and]
    rename_i i
    cases e : cts ps with
    | none => simp
    | some js => by_cases h : 0 ≤ i <;> simp [h]
theorem cut_one (ps : List D) : opSl (.tup ps) (some 1) none = some (.dat (.tup ps.tail)) := by
  simp only [opSl, cutD, HT.sIx]
  cases ps with
  | nil => rfl
  | cons a r => simp [Int.toNat]; try (apply List.take_of_length_le; omega)
theorem zip_int : ∀ is : List Int, List.zipWith pairD (is.map D.int) (is.map D.int).tail = (is.zip is.tail).map fun q => pairD (.int q.1) (.int q.2) := by
  intro is
  rw [← List.map_tail, List.zipWith_map, List.zip, List.map_zipWith]
theorem all_rise : ∀ is : List Int, (is.zip is.tail).all (fun q => decide (q.1 < q.2)) = rise is
  | [] => rfl
  | [a] => rfl
  | a :: b :: r => by
    have := all_rise (b :: r)
    simp only [List.tail_cons] at this ⊢
    rw [List.zip_cons_cons, List.all_cons, this]
    rfl
section
variable {n : Nat} {μ : Sto}
theorem s_leafP {w : PySem.Str} (p : D) (hw : isW w 0 = true) (hl : lOk p = true) : VM.run T (n + 3) 14 [.dat (.tup [.str w, p])] μ = .ok (.dat (.bl (lfP p))) μ := by
  rw [run_at (nl := 4) (b := P_is_leaf) (by rfl)]
  unfold P_is_leaf
  have hw := isW_eq hw
  subst hw
  have i0 : opIx (.tup [.str (wd 0), p]) (.int 0) = some (.dat (.str (wd 0))) := ix0
  have i1 : opIx (.tup [.str (wd 0), p]) (.int 1) = some (.dat p) := ix1
  have q1 : opCmp .NotEq (.int 2) (.int 2) = some false := by rfl
  have q2 : opCmp .NotEq (.str (wd 0)) (.str "nearest") = some false := by rfl
  by_cases ht : isi .tuple p = true
  · cases p <;> simp [isi] at ht
    rename_i ps
    simp only [lOk, decide_eq_true_eq] at hl
    have lc := lc_map (s := ps) (step := lcStep (VM.run T (n + 2)) (.nm 1) bYes (eAnd (eCall 1 (evs [eV 1])) (eCmp (opCmp .Lt) (eV 1) (eC (.int 40)))) [some (.dat (.tup [.str (wd 0), .tup ps])), none, none, none]) (g := fun d => .bl (c40 d)) (μ := μ) (by
      intro d _
      have e := s_isCount (n := n) (μ := μ) d
      cases d with
      | int i => by_cases h : 0 ≤ i <;> simp [isC, h] at e <;> simp [asg, e, c40, h, opCmp, VM.opI]
      | _ => simp [isC] at e; simp [asg, e, c40]) (lim1 (by omega))
    have ba := bAll_map c40 ps
    have lm : (ps.map fun d => D.bl (c40 d)).length ≤ LIM := by rw [List.length_map]; exact lim1 (by omega)
    generalize (ps.map fun d => D.bl (c40 d)) = BL at *
    rw [c40_all] at ba
    cases ec : cts ps with
    | none =>
      rw [ec] at ba
      simp only [lfP, ec]
      simp [startE, isi, bLen_tup, q1, i0, q2, i1, wipeE, lc, lm, ba, callEnd, EV.out]
    | some is =>
      rw [ec] at ba
      simp only at ba
      obtain ⟨rfl, h0⟩ := cts_eq ec
      simp only [lfP, ec]
      have hl2 : is.length ≤ 200 := by simpa using hl
      have lc2 := lc_mapE (enc := fun q : Int × Int => pairD (.int q.1) (.int q.2)) (f := fun q => .bl (decide (q.1 < q.2))) (μ := μ) (step := lcStep (VM.run T (n + 2)) (.tup [.nm 2, .nm 3]) bYes (eCmp (opCmp .Lt) (eV 2) (eV 3)) [some (.dat (.tup [.str (wd 0), .tup (is.map .int)])), none, none, none]) (is.zip is.tail) (by
        intro q _
        simp [pairD, asg, asgs, opCmp, VM.opI]) (lim1 (by rw [List.length_zip]; omega))
      rw [← zip_int] at lc2
      have ba2 := bAll_map (fun q : Int × Int => decide (q.1 < q.2)) (is.zip is.tail)
      rw [all_rise] at ba2
      have cu := cut_one (is.map .int)
      have lm2 : ((is.zip is.tail).map fun q => D.bl (decide (q.1 < q.2))).length ≤ LIM := by rw [List.length_map, List.length_zip]; exact lim1 (by omega)
      have zl : (is.zip is.tail).length + 1 = (List.zipWith pairD (is.map D.int) (is.map D.int).tail).length + 1 := by rw [zip_int]; simp
      rw [zl] at lc2
      have fl : (List.zipWith pairD (is.map D.int) (is.map D.int).tail).length = (is.map D.int).length - 1 := by simp
      rw [fl] at lc2
      generalize ((is.zip is.tail).map fun q => D.bl (decide (q.1 < q.2))) = BL2 at *
      have nl : List.length (is.map D.int) = is.length := by simp
      generalize is.map D.int = IM at *
      cases hh : is.all (fun i => decide (i < 40)) with
      | false =>
        rw [hh] at ba
        simp [startE, isi, bLen_tup, q1, i0, q2, i1, wipeE, lc, lm, ba, callEnd, EV.out]
      | true =>
        rw [hh] at ba
        simp [startE, isi, bLen_tup, q1, i0, q2, i1, wipeE, lc, lm, ba, callEnd, EV.out, oSome, oNone, cu, iZip, zipSrc, lc2, lm2, ba2]
  · have : lfP p = false := by cases p <;> simp [isi] at ht <;> rfl
    rw [this]
    simp at ht
    simp [startE, isi_tup, isi_str, bLen_tup, q1, i0, q2, i1, ht, callEnd, EV.out]
theorem s_leaf (d : D) (hg : gv d = true) : VM.run T (n + 3) 14 [.dat d] μ = .ok (.dat (.bl (isLf d))) μ := by
  have other : ∀ d, isi .tuple d = false → VM.run T (n + 3) 14 [.dat d] μ = .ok (.dat (.bl false)) μ := fun d h => by
    rw [run_at (nl := 4) (b := P_is_leaf) (by rfl)]
    unfold P_is_leaf
    simp [startE, h, callEnd, EV.out]
  have len : ∀ ds : List D, ds.length ≠ 2 → VM.run T (n + 3) 14 [.dat (.tup ds)] μ = .ok (.dat (.bl false)) μ := fun ds h => by
    rw [run_at (nl := 4) (b := P_is_leaf) (by rfl)]
    unfold P_is_leaf
    have q : opCmp .NotEq (.int (ds.length : Nat)) (.int 2) = some true := by
      simp only [opCmp, opEq_int, Option.map_some]
      congr 1
      simp; omega
    simp [startE, isi, bLen_tup, q, callEnd, EV.out]
  cases d with
  | tup ds =>
    by_cases hl : ds.length ≠ 2
    · rw [len ds hl, isLf_len ds hl]
    match ds, hg with
    | [], _ => exact absurd (by decide) hl
    | [_], _ => exact absurd (by simp) hl
    | _ :: _ :: _ :: r, _ => exact absurd (by simp) hl
    | [w, p], hg =>
      simp only [gv, Bool.and_eq_true] at hg
      cases w with
      | str w =>
        obtain ⟨k, rfl⟩ := wOk_eq hg.2.1
        by_cases hk : isW (wd k) 0 = true
        · rw [s_leafP p hk hg.2.2]
          simp only [isLf, hk, Bool.true_and]
        · rw [run_at (nl := 4) (b := P_is_leaf) (by rfl)]
          unfold P_is_leaf
          have i0 : opIx (.tup [.str (wd k), p]) (.int 0) = some (.dat (.str (wd k))) := ix0
          have q1 : opCmp .NotEq (.int 2) (.int 2) = some false := by rfl
          have q2 : opCmp .NotEq (.str (wd k)) (.str "nearest") = some true := by
            simp only [opCmp, opEq_str, Option.map_some]
            congr 1
            have : isW (wd k) 0 = ((wd k).cps.toList == ("nearest" : PySem.Str).cps.toList) := rfl
            rw [← this]
            simpa using hk
          have hk : isW (wd k) 0 = false := by simpa using hk
          simp [startE, isi, bLen_tup, q1, i0, q2, isLf, hk, callEnd, EV.out]
      | _ =>
        rw [run_at (nl := 4) (b := P_is_leaf) (by rfl)]
        unfold P_is_leaf
        have q1 : opCmp .NotEq (.int 2) (.int 2) = some false := by rfl
        simp [startE, isi, bLen_tup, q1, ix0, isLf, callEnd, EV.out]
  | _ => exact other _ rfl
end
end K51
set_option maxHeartbeats 0
/-! k51: shapes, what is known. -/
namespace K51
open VM Law
open L2 (atI ixN)
theorem c_le (i j : Int) : opCmp .LtE (.int i) (.int j) = some (decide (i ≤ j)) := rfl
theorem c_lt (i j : Int) : opCmp .Lt (.int i) (.int j) = some (decide (i < j)) := rfl
theorem bAbs_i (i : Int) : bAbs [.int i] = some (.dat (.int (if i < 0 then -i else i))) := rfl
theorem abs_le (i : Int) : decide ((if i < 0 then -i else i) ≤ 999) = (decide (-999 ≤ i) && decide (i ≤ 999)) := by
  rw [Bool.eq_iff_iff]
  simp only [Bool.and_eq_true, decide_eq_true_eq]
  split <;> omega
theorem isSh_len : ∀ ds : List D, ds.length ≠ 2 → isSh (.tup ds) = false := fun ds h => by
  unfold isSh
  split
  · rename_i e; cases e
  · rename_i e; cases e; simp at h
  · rfl
theorem isSh_str {x : PySem.Str} {k : Fin 6} (e : nmI x = some k) (y : D) : isSh (.tup [.str x, y]) = (nmP k && match y with | .int m => decide (0 ≤ m) && decide (m ≤ 8) | _ => false) := by
  cases y <;> simp [isSh, e]
theorem isSh_nos {x y : D} (h : ∀ s, x ≠ .str s) : isSh (.tup [x, y]) = false := by
  cases x <;> simp [isSh] at h ⊢
section
variable {n : Nat} {μ : Sto}
theorem name_no (x : D) (h : ∀ s, x ≠ .str s) : VM.run T (n + 1) 2 [.dat x] μ = .ok (.dat (.bl false)) μ := by
  rw [run_at (nl := 2) (b := P_is_name) (by rfl)]
  unfold P_is_name
  have : isi .str x = false := by cases x <;> simp [isi] at h ⊢
  simp [startE, this, callEnd, EV.out]
theorem lname_no (x : D) (h : ∀ s, x ≠ .str s) : VM.run T (n + 1) 26 [.dat x] μ = .ok (.dat (.bl false)) μ := by
  rw [run_at (nl := 4) (b := P__law_is_name) (by rfl)]
  unfold P__law_is_name
  have : isi .str x = false := by cases x <;> simp [isi] at h ⊢
  simp [startE, this, callEnd, EV.out]
theorem s_shape (s : D) (h : sOk s = true) : VM.run T (n + 6) 15 [.dat s] μ = .ok (.dat (.bl (isSh s))) μ := by
  rw [run_at (nl := 1) (b := P_is_shape) (by rfl)]
  unfold P_is_shape
  have e0 := s_isInt (n := n + 4) (μ := μ) s
  cases s with
  | int i =>
    simp only [isI] at e0
    simp only [isSh, ← abs_le]
    simp [startE, e0, bAbs_i, c_le, callEnd, EV.out]
  | tup ds =>
    simp only [isI] at e0
    by_cases hl : ds.length ≠ 2
    · have q : opCmp .NotEq (.int (ds.length : Nat)) (.int 2) = some true := by
        simp only [opCmp, opEq_int, Option.map_some]
        congr 1
        simp; omega
      rw [isSh_len ds hl]
      simp [startE, e0, isi_tup, bLen_tup, q, callEnd, EV.out]
    have q1 : opCmp .NotEq (.int 2) (.int 2) = some false := by rfl
    match ds, h with
    | [], _ => exact absurd (by decide) hl
    | [_], _ => exact absurd (by simp) hl
    | _ :: _ :: _ :: r, _ => exact absurd (by simp) hl
    | [x, y], h =>
      have i0 : opIx (.tup [x, y]) (.int 0) = some (.dat x) := ix0
      have i1 : opIx (.tup [x, y]) (.int 1) = some (.dat y) := ix1
      by_cases hx : ∀ s, x ≠ .str s
      · have e2 := name_no (n := n + 4) (μ := μ) x hx
        rw [isSh_nos hx]
        simp [startE, e0, isi_tup, bLen_tup, q1, i0, e2, callEnd, EV.out]
      · have : ∃ s, x = .str s := by
          cases x <;> simp at hx ⊢
        obtain ⟨x, rfl⟩ := this
        simp only [sOk] at h
        cases ek : nmI x with
        | none => rw [ek] at h; cases h
        | some k =>
          have ex := nmI_eq ek
          rw [isSh_str ek]
          subst ex
          have e2 := s_isName (n := n + 4) (μ := μ) k
          cases hN : nmN k with
          | false =>
            have hP : nmP k = false := by
              unfold nmN at hN; unfold nmP; simp at hN ⊢; omega
            rw [hN] at e2
            simp [startE, e0, isi_tup, bLen_tup, q1, i0, e2, hP, callEnd, EV.out]
          | true =>
            rw [hN] at e2
            have e3 := s_pat (n := n) (μ := μ) k hN
            have e4 := s_isCount (n := n + 3) (μ := μ) y
            simp only [t0] at e3
            cases hP : nmP k with
            | false =>
              rw [hP] at e3
              simp [startE, e0, isi_tup, bLen_tup, q1, i0, e2, e3, callEnd, EV.out]
            | true =>
              rw [hP] at e3
              cases y with
              | int m =>
                by_cases hm : 0 ≤ m <;> simp [isC, hm] at e4 <;> simp [startE, e0, isi_tup, bLen_tup, q1, i0, i1, e2, e3, e4, hm, c_le, callEnd, EV.out]
              | _ => simp [isC] at e4; simp [startE, e0, isi_tup, bLen_tup, q1, i0, i1, e2, e3, e4, callEnd, EV.out]
  | _ =>
    simp only [isI] at e0
    simp [startE, e0, isi, isSh, callEnd, EV.out]
theorem l_shape (s : D) (h : sOk s = true) : VM.run T (n + 2) 27 [.dat s] μ = .ok (.dat (.bl (isSh s))) μ := by
  rw [run_at (nl := 1) (b := P__law_is_shape) (by rfl)]
  unfold P__law_is_shape
  cases s with
  | int i =>
    have ng : (eNeg (eC (.int 999)) : SE) = fun F ρ X => .ok (.dat (.int (-999))) X := by rfl
    simp only [ng]
    by_cases h1 : -999 ≤ i <;> simp [startE, isi, c_le, isSh, h1, callEnd, EV.out]
  | tup ds =>
    by_cases hl : ds.length ≠ 2
    · have q : opCmp .Eq (.int (ds.length : Nat)) (.int 2) = some false := by
        simp only [opCmp, opEq_int]
        congr 1
        simp; omega
      rw [isSh_len ds hl]
      simp [startE, isi_tup, bLen_tup, q, callEnd, EV.out]
    have q1 : opCmp .Eq (.int 2) (.int 2) = some true := by rfl
    match ds, h with
    | [], _ => exact absurd (by decide) hl
    | [_], _ => exact absurd (by simp) hl
    | _ :: _ :: _ :: r, _ => exact absurd (by simp) hl
    | [x, y], h =>
      have i0 : opIx (.tup [x, y]) (.int 0) = some (.dat x) := ix0
      have i1 : opIx (.tup [x, y]) (.int 1) = some (.dat y) := ix1
      by_cases hx : ∀ s, x ≠ .str s
      · have e2 := lname_no (n := n) (μ := μ) x hx
        rw [isSh_nos hx]
        simp [startE, isi_tup, bLen_tup, q1, i0, e2, callEnd, EV.out]
      · have : ∃ s, x = .str s := by
          cases x <;> simp at hx ⊢
        obtain ⟨x, rfl⟩ := this
        simp only [sOk] at h
        cases ek : nmI x with
        | none => rw [ek] at h; cases h
        | some k =>
          have ex := nmI_eq ek
          rw [isSh_str ek]
          subst ex
          have e2 := l_isName (n := n) (μ := μ) k
          have e4 := l_isCount (n := n) (μ := μ) y
          cases hP : nmP k with
          | false =>
            rw [hP] at e2
            simp [startE, isi_tup, bLen_tup, q1, i0, e2, callEnd, EV.out]
          | true =>
            rw [hP] at e2
            cases y with
            | int m =>
              by_cases hm : 0 ≤ m <;> simp [isC, hm] at e4 <;> simp [startE, isi_tup, bLen_tup, q1, i0, i1, e2, e4, hm, c_le, callEnd, EV.out]
            | _ => simp [isC] at e4; simp [startE, isi_tup, bLen_tup, q1, i0, i1, e2, e4, callEnd, EV.out]
  | _ => simp [startE, isi, isSh, callEnd, EV.out]
end
end K51
set_option maxHeartbeats 0
/-! k51: what is known. -/
namespace K51
open VM Law
open L2 (atI ixN)
abbrev KL := List (List Int × Int)
def inlL (p : List Int) : List L2.Key := p.map Sum.inl
def kk (K : KL) : List (List L2.Key) := K.map fun q => inlL q.1
def kv (K : KL) : List D := K.map fun q => .int q.2
def kD (K : KL) : D := .dct (kk K) (kv K)
def look : KL → List Int → Option Int
  | [], _ => none
  | (q, m) :: r, p => if q = p then some m else look r p
def put : KL → List Int → Int → KL
  | [], p, m => [(p, m)]
  | (q, a) :: r, p, m => if q = p then (q, m) :: r else (q, a) :: put r p m
theorem inl_inj {p q : List Int} (h : inlL p = inlL q) : p = q := by
  induction p generalizing q with
  | nil => cases q with
    | nil => rfl
    | cons _ _ => cases h
  | cons a p ih => cases q with
    | nil => cases h
    | cons b q =>
      simp only [inlL, List.map_cons, List.cons.injEq, Sum.inl.injEq] at h
      rw [h.1, ih h.2]
theorem tk_eq (p q : List Int) : tkEq (inlL p) (inlL q) = decide (p = q) := by
  rw [Bool.eq_iff_iff, tkEq_iff, decide_eq_true_iff]
  exact ⟨inl_inj, fun h => by rw [h]⟩
theorem tget_k (p : List Int) : ∀ K : KL, tget (kk K) (kv K) (inlL p) = (look K p).map .int
  | [] => rfl
  | (q, m) :: r => by
    simp only [kk, kv, List.map_cons, tget, look, tk_eq]
    by_cases h : q = p
    · simp [h]
    · have := tget_k p r
      simp only [kk, kv] at this
      simp [h, this]
theorem tput_k (p : List Int) (m : Int) : ∀ K : KL, tput (kk K) (kv K) (inlL p) (.int m) = (kk (put K p m), kv (put K p m))
  | [] => rfl
  | (q, a) :: r => by
    have ih := tput_k p m r
    simp only [kk, kv] at ih
    simp only [kk, kv, List.map_cons, tput, put, tk_eq]
    by_cases h : q = p
    · simp [h]
    · simp [h, ih]
theorem thas_k (p : List Int) : ∀ K : KL, thas (kk K) (inlL p) = decide (p ∈ K.map (·.1))
  | [] => by simp [kk, thas]
  | (q, a) :: r => by
    have ih := thas_k p r
    simp only [kk, thas] at ih
    simp only [kk, thas, List.map_cons, List.any_cons, tk_eq, ih]
    rw [Bool.eq_iff_iff]
    simp only [Bool.or_eq_true, decide_eq_true_eq, List.mem_cons]
    exact or_congr ⟨Eq.symm, Eq.symm⟩ Iff.rfl
theorem ndT_k : ∀ K : KL, (K.map (·.1)).Nodup → ndT (kk K) = true
  | [], _ => rfl
  | (q, a) :: r, h => by
    rw [List.map_cons, List.nodup_cons] at h
    have h1 := ndT_k r h.2
    have h2 := thas_k q r
    simp only [kk] at h1 h2
    simp only [kk, List.map_cons, ndT, h2, h1, Bool.and_true, Bool.not_eq_true', decide_eq_false_iff_not]
    exact h.1
theorem look_put (p : List Int) (m : Int) (q : List Int) : ∀ K : KL, look (put K p m) q = if q = p then some m else look K q
  | [] => by simp only [put, look]; by_cases h : p = q <;> simp [h, eq_comm]
  | (r, a) :: K => by
    have ih := look_put p m q K
    simp only [put]
    by_cases h : r = p
    · simp only [h, if_true, look]
      by_cases h2 : q = p
      · simp [h2]
      · have : ¬ p = q := fun e => h2 e.symm
        simp [h2, this]
    · simp only [h, if_false, look, ih]
      by_cases h2 : q = p
      · subst h2; simp [h]
      · simp [h2]
theorem put_mem {p : List Int} {m : Int} {x : List Int × Int} : ∀ {K : KL}, x ∈ put K p m → x.1 = p ∨ x ∈ K
  | [], h => by simp only [put, List.mem_singleton] at h; subst h; exact .inl rfl
  | (r, a) :: K, h => by
    simp only [put] at h
    split at h
    · rename_i e
      rcases List.mem_cons.mp h with h | h
      · subst h; exact .inl e
      · exact .inr (List.mem_cons_of_mem _ h)
    · rcases List.mem_cons.mp h with h | h
      · subst h; exact .inr List.mem_cons_self
      · rcases put_mem h with h | h
        · exact .inl h
        · exact .inr (List.mem_cons_of_mem _ h)
theorem put_keys {p : List Int} {m : Int} {x : List Int} : ∀ {K : KL}, x ∈ (put K p m).map (·.1) → x = p ∨ x ∈ K.map (·.1) := fun {K} h => by
  obtain ⟨y, hy, rfl⟩ := List.mem_map.mp h
  rcases put_mem hy with h | h
  · exact .inl h
  · exact .inr (List.mem_map.mpr ⟨y, h, rfl⟩)
theorem put_nd {p : List Int} {m : Int} : ∀ {K : KL}, (K.map (·.1)).Nodup → ((put K p m).map (·.1)).Nodup
  | [], _ => by simp [put]
  | (r, a) :: K, h => by
    rw [List.map_cons, List.nodup_cons] at h
    simp only [put]
    split
    · rw [List.map_cons, List.nodup_cons]; exact h
    · rename_i e
      rw [List.map_cons, List.nodup_cons]
      refine ⟨fun hm => ?_, put_nd h.2⟩
      rcases put_keys hm with z | z
      · exact e z
      · exact h.1 z
theorem put_len {p : List Int} {m : Int} : ∀ {K : KL}, (put K p m).length ≤ K.length + 1
  | [] => by simp [put]
  | (r, a) :: K => by
    have := put_len (p := p) (m := m) (K := K)
    simp only [put]
    split <;> simp <;> omega
structure GK (K : KL) : Prop where
  nd : (K.map (·.1)).Nodup
  dm : ∀ q ∈ K, inDom q.1 = true
theorem GK.nil : GK [] := ⟨by simp, by simp⟩
theorem GK.put {K : KL} {p : List Int} {m : Int} (h : GK K) (hp : inDom p = true) : GK (K51.put K p m) := ⟨put_nd h.nd, fun q hq => by
  rcases put_mem hq with z | z
  · rw [z]; exact hp
  · exact h.dm q z⟩
theorem keyInts_inl : ∀ p : List Int, keyInts (inlL p) = some p
  | [] => rfl
  | a :: p => by
    have := keyInts_inl p
    simp only [inlL] at this
    simp [inlL, keyInts, this]
theorem keysInts_k : ∀ K : KL, keysInts (kk K) = some (K.map (·.1))
  | [] => rfl
  | (q, a) :: r => by
    have := keysInts_k r
    simp only [kk] at this
    simp only [kk, List.map_cons, keysInts, keyInts_inl, this]
theorem copy_k {K : KL} (h : GK K) (hl : K.length ≤ 5000) : fDictT [kD K] = some (.new (.dct (kk K) (kv K))) := by
  have e := keysInts_k K
  have ap := hashes_apart (l := K.map (·.1)) (fun p hp => by
    obtain ⟨q, hq, rfl⟩ := List.mem_map.mp hp
    exact h.dm q hq) h.nd
  have l1 : (kk K).length ≤ LIM := by unfold kk; rw [List.length_map]; exact lim1 hl
  simp only [fDictT, kD, e]
  rw [if_pos ⟨ap, l1⟩]
theorem tkey_ints : ∀ p : List Int, (D.tup (p.map .int)).tkey = some (inlL p) := by
  intro p
  show dkeys (p.map .int) = _
  induction p with
  | nil => rfl
  | cons a p ih => simp only [List.map_cons, dkeys, D.key, ih]; rfl
def bK (many : Int) (K : KL) : Kn := fun q => if q = [] then many else (look K q).getD 0
theorem bK_put {many : Int} {K : KL} {p : List Int} {m : Int} (hp : p ≠ []) : bK many (put K p (max m (bK many K p))) = upB (bK many K) p m := by
  funext q
  simp only [bK, upB, look_put, hp, if_false]
  by_cases h : q = p
  · subst h; simp [hp]
  · simp [h]
def encL (q : List Int × Int) : D := .tup [.tup (q.1.map .int), .int q.2]
def bL : KL → Kn
  | [], _ => 0
  | (p, m) :: r, q => if p = q then max m (bL r q) else bL r q
theorem bL_pos : ∀ (L : KL) (q : List Int), 0 ≤ bL L q
  | [], q => Int.le_refl _
  | (p, m) :: r, q => by
    have := bL_pos r q
    simp only [bL]
    split
    · omega
    · exact this
theorem bL_any (q : List Int) {x : Int} (hx : 0 ≤ x) : ∀ L : KL, (L.any fun e => decide (e.1 = q) && decide (x < e.2)) = decide (x < bL L q)
  | [] => by
    have : ¬ x < 0 := by omega
    simp [bL, this]
  | (p, m) :: r => by
    have ih := bL_any q hx r
    rw [List.any_cons, ih, Bool.eq_iff_iff]
    simp only [bL, Bool.or_eq_true, Bool.and_eq_true, decide_eq_true_eq]
    split
    · rename_i e; simp [e]; omega
    · rename_i e; simp [e]
theorem bL_app (p : List Int) (m : Int) : ∀ L : KL, bL (L ++ [(p, m)]) = upB (bL L) p m
  | [] => by
    funext q
    simp only [List.nil_append, bL, upB]
    by_cases h : p = q
    · simp [h]
    · have : ¬ q = p := fun e => h e.symm
      simp [h, this]
  | (r, a) :: L => by
    funext q
    have ih := congrFun (bL_app p m L) q
    simp only [List.cons_append, bL, ih, upB]
    by_cases h : r = q
    · by_cases h2 : q = p
      · simp only [h, h2, if_true]; omega
      · simp [h, h2]
    · by_cases h2 : q = p
      · subst h2; simp [h]
      · simp [h, h2]
theorem b_first {many : Int} (h : 0 ≤ many) : bK many [] = bL [([], many)] := by
  funext q
  simp only [bK, bL, look, Option.getD]
  by_cases e : q = []
  · simp [e]; omega
  · have : ¬ [] = q := fun z => e z.symm
    simp [e, this]
theorem ix_last {l : List D} {a : D} : opIx (.tup (l ++ [a])) (.int (-1)) = some (.dat a) := by
  show (atI (l ++ [a]) (-1)).map EV.dat = _
  have : atI (l ++ [a]) (-1) = some a := by
    have hn : ixN (l ++ [a]).length (-1) = some l.length := by
      unfold L2.ixN
      rw [List.length_append, show [a].length = 1 from rfl]
      rw [if_neg (by omega), if_pos (by omega)]
      congr 1
      omega
    unfold L2.atI
    rw [hn]
    simp
  rw [this]; rfl
theorem last_ix (l : List Int) (h : l ≠ []) : opIx (.tup (l.map .int)) (.int (-1)) = some (.dat (.int (l.getLast h))) := by
  have e : l.map D.int = l.dropLast.map D.int ++ [.int (l.getLast h)] := by
    conv => lhs; rw [← List.dropLast_concat_getLast h]
    rw [List.map_append]; rfl
  rw [e]
  exact ix_last
theorem cut_but (l : List D) : opSl (.tup l) none (some (-1)) = some (.dat (.tup l.dropLast)) := by
  have h1 : HT.sIx l.length 0 none = 0 := rfl
  have h2 : HT.sIx l.length l.length (some (-1)) = l.length - 1 := by
    show (if (-1 : Int) < 0 then ((-1 : Int) + (l.length : Int)).toNat else min (-1 : Int).toNat l.length) = _
    rw [if_pos (by decide)]
    omega
  simp only [opSl, cutD, h1, h2, List.dropLast_eq_take, List.drop_zero, Nat.sub_zero]
theorem eq_unit {ps : List D} (h1 : fits 64 (.tup ps) = true) : opCmp .Eq (.tup ps) (.tup []) = some ps.isEmpty := by
  have h2 : fits 64 (.tup []) = true := rfl
  simp only [opCmp, opEq, opEq0, txEq, h1, h2]
  cases ps <;> simp [eqv, eqvs]
end K51
set_option maxHeartbeats 0
/-! k51: known paths. -/
namespace K51
open VM Law
open L2 (atI ixN)
theorem path_eq {B : Kn} {ps : List D} {is : List Int} (h : cts ps = some is) (hn : is ≠ []) : path B (.tup ps) = decide (is.getLast hn < B is.dropLast) := by
  simp only [path, h]
  cases is with
  | nil => exact absurd rfl hn
  | cons i r => rfl
theorem path_nil {B : Kn} : path B (.tup []) = false := rfl
theorem path_none {B : Kn} {ps : List D} (h : cts ps = none) : path B (.tup ps) = false := by simp only [path, h]
theorem pOk_dom {ps : List D} {is : List Int} (h : pOk (.tup ps) = true) (e : cts ps = some is) (hn : is ≠ []) : inDom is = true := by
  simp only [pOk, e, Bool.and_eq_true] at h
  cases is with
  | nil => exact absurd rfl hn
  | cons i r => exact h.2
theorem pOk_fit {ps : List D} (h : pOk (.tup ps) = true) : fits 64 (.tup ps) = true ∧ ps.length ≤ 60 := by
  simp only [pOk, Bool.and_eq_true, decide_eq_true_eq] at h
  exact h.1
section
variable {n : Nat} {μ : Sto}
theorem s_known (p : D) (h : pOk p = true) (many : Int) (K : KL) : VM.run T (n + 3) 16 [.dat p, .dat (.int many), .dat (kD K)] μ = .ok (.dat (.bl (path (bK many K) p))) μ := by
  rw [run_at (nl := 4) (b := P_is_known_path) (by rfl)]
  unfold P_is_known_path
  by_cases ht : isi .tuple p = true
  · cases p <;> simp [isi] at ht
    rename_i ps
    obtain ⟨hf, hl⟩ := pOk_fit h
    have eu := eq_unit hf
    have lc := lc_map (s := ps) (step := lcStep (VM.run T (n + 2)) (.nm 3) bYes (eCall 1 (evs [eV 3])) [some (.dat (.tup ps)), some (.dat (.int many)), some (.dat (kD K)), none]) (g := fun d => .bl (isC d)) (μ := μ) (by
      intro d _
      have e := s_isCount (n := n) (μ := μ) d
      simp [asg, e]) (lim1 (by omega))
    have ba := bAll_map isC ps
    have lm : (ps.map fun d => D.bl (isC d)).length ≤ LIM := by rw [List.length_map]; exact lim1 (by omega)
    rw [cts_all] at ba
    generalize (ps.map fun d => D.bl (isC d)) = BL at *
    cases ec : cts ps with
    | none =>
      rw [ec] at ba
      rw [path_none ec]
      cases hp : ps.isEmpty with
      | true => rw [hp] at eu; simp [startE, isi_tup, eu, callEnd, EV.out]
      | false => rw [hp] at eu; simp [startE, isi_tup, eu, wipeE, lc, lm, ba, callEnd, EV.out]
    | some is =>
      rw [ec] at ba
      obtain ⟨rfl, h0⟩ := cts_eq ec
      by_cases hn : is = []
      · subst hn
        rw [show path (bK many K) (.tup (List.map D.int [])) = false from rfl]
        simp at eu
        simp [startE, isi_tup, eu, callEnd, EV.out]
      · rw [path_eq ec hn]
        have he : (is.map D.int).isEmpty = false := by cases is <;> simp at hn ⊢
        rw [he] at eu
        have ng : (eNeg (eC (.int 1)) : SE) = fun F ρ X => .ok (.dat (.int (-1))) X := by rfl
        have il := last_ix is hn
        have bl : bLen [.tup (is.map D.int)] = some (.dat (.int (is.length : Nat))) := by rw [bLen_tup, List.length_map]
        have cb := cut_but (is.map D.int)
        have db : (is.map D.int).dropLast = is.dropLast.map D.int := by rw [List.map_dropLast]
        rw [db] at cb
        have tk := tkey_ints is.dropLast
        have tg := tget_k is.dropLast K
        simp only [ng]
        have hml : List.length (is.map D.int) = is.length := by simp
        generalize hI : is.map D.int = IM at *
        generalize is.dropLast.map D.int = DM at *
        by_cases h1 : is.length = 1
        · have q : opCmp .Eq (.int (is.length : Nat)) (.int 1) = some true := by
            simp only [opCmp, opEq_int, h1]; rfl
          have hd : is.dropLast = [] := by
            cases is with
            | nil => cases h1
            | cons a r => cases r with
              | nil => rfl
              | cons _ _ => simp at h1
          have bb : bK many K is.dropLast = many := by rw [hd]; rfl
          rw [bb]
          simp [startE, isi_tup, eu, wipeE, lc, lm, ba, il, bl, q, c_lt, callEnd, EV.out]
        · have q : opCmp .Eq (.int (is.length : Nat)) (.int 1) = some false := by
            simp only [opCmp, opEq_int]
            congr 1
            simp; omega
          have hd : is.dropLast ≠ [] := by
            cases is with
            | nil => exact absurd rfl hn
            | cons a r => cases r with
              | nil => simp at h1
              | cons _ _ => simp
          have bb : bK many K is.dropLast = (look K is.dropLast).getD 0 := by simp [bK, hd]
          rw [bb]
          simp only [kD] at *
          cases hk : look K is.dropLast with
          | none =>
            rw [hk] at tg
            simp [startE, isi_tup, eu, wipeE, lc, lm, ba, il, bl, q, c_lt, cb, oNone, oSome, tk, tg, callEnd, EV.out]
          | some m =>
            rw [hk] at tg
            simp [startE, isi_tup, eu, wipeE, lc, lm, ba, il, bl, q, c_lt, cb, oNone, oSome, tk, tg, callEnd, EV.out]
  · have : path (bK many K) p = false := by cases p <;> simp [isi] at ht <;> rfl
    rw [this]
    simp at ht
    simp [startE, ht, callEnd, EV.out]
/-- a list, in a cell or not -/
def Sq (sv : SV) (L : List D) (μ : Sto) : Prop := sv = .dat (.lst L) ∨ ∃ k, sv = .cel k ∧ μ[k]? = some ⟨true, .lst L⟩
theorem Sq.app {sv : SV} {L : List D} {μ : Sto} (h : Sq sv L μ) (E : Sto) : Sq sv L (μ ++ E) := by
  rcases h with rfl | ⟨k, rfl, hk⟩
  · exact .inl rfl
  · have hkl : k < μ.length := (List.getElem?_eq_some_iff.mp hk).1
    exact .inr ⟨k, rfl, by rw [List.getElem?_append_left hkl, hk]⟩
theorem Sq.see {sv : SV} {L : List D} {μ : Sto} (h : Sq sv L μ) : sv.ev.see μ = some (.lst L) := by
  rcases h with rfl | ⟨k, rfl, hk⟩
  · rfl
  · simp only [EV.see, ev_cel]
    rw [hk]; rfl
theorem Sq.arg {sv : SV} {L : List D} {μ : Sto} (h : Sq sv L μ) : sv.ev.arg = sv := by
  rcases h with rfl | ⟨k, rfl, hk⟩ <;> rfl
theorem Sq.src {sv : SV} {L : List D} {μ : Sto} (h : Sq sv L μ) : ∃ S, srcOf sv.ev μ = some S ∧ S.at μ = some L ∧ S.len μ = L.length := by
  rcases h with rfl | ⟨k, rfl, hk⟩
  · exact ⟨.vals L, rfl, rfl, rfl⟩
  · refine ⟨.cell k, ?_, ?_, ?_⟩
    · simp only [srcOf, ev_cel, hk]
    · simp only [Src.at, hk]
    · simp only [Src.len, Src.at, hk]
theorem lc_src {S : Src} {s : List D} {step : D → Sto → Res (Option D)} (h : S.at μ = some s) (hs : ∀ d ∈ s, ∃ o, step d μ = .ok o μ) : ∀ (m i : Nat), lcLoop S step m i μ = lcLoop (.vals s) step m i μ
  | 0, i => by unfold lcLoop; rfl
  | m + 1, i => by
    unfold lcLoop
    rw [h]
    simp only [src_vals]
    cases e : s[i]? with
    | none => rfl
    | some d =>
      obtain ⟨o, e1⟩ := hs d (List.mem_of_getElem? e)
      simp only [e1, Res.bind_ok]
      rw [lc_src h hs m (i + 1)]
theorem fits_i (i : Int) (n : Nat) : fits n (.int i) = true := by cases n <;> rfl
theorem fits_is : ∀ (l : List Int) (n : Nat), fitsAll n (l.map .int) = true
  | [], n => by simp [fitsAll]
  | k :: l, n => by simp only [List.map_cons, fitsAll, fits_i k n, fits_is l n, Bool.and_self]
theorem eqvs_is : ∀ a b : List Int, eqvs (a.map .int) (b.map .int) = decide (a = b)
  | [], [] => rfl
  | [], _ :: _ => rfl
  | _ :: _, [] => rfl
  | x :: a, y :: b => by
    simp only [List.map_cons, eqvs, eqv, eqvs_is a b]
    rw [Bool.eq_iff_iff]; simp
theorem eq_ints (a b : List Int) : opCmp .Eq (.tup (a.map .int)) (.tup (b.map .int)) = some (decide (a = b)) := by
  have h1 : fits 64 (.tup (a.map .int)) = true := by simp only [fits]; exact fits_is a 63
  have h2 : fits 64 (.tup (b.map .int)) = true := by simp only [fits]; exact fits_is b 63
  simp only [opCmp, opEq, opEq0, txEq, h1, h2, eqv, eqvs_is]
  rfl
theorem l_known (p : D) (h : pOk p = true) (L : KL) (hL : L.length ≤ 900) {sv : SV} (hs : Sq sv (L.map encL) μ) : VM.run T (n + 2) 28 [.dat p, sv] μ = .ok (.dat (.bl (path (bL L) p))) μ := by
  rw [run_at (nl := 5) (b := P__law_is_known) (by rfl)]
  unfold P__law_is_known
  by_cases ht : isi .tuple p = true
  · cases p <;> simp [isi] at ht
    rename_i ps
    obtain ⟨hf, hl⟩ := pOk_fit h
    have eu := eq_unit hf
    have lc := lc_map (s := ps) (step := lcStep (VM.run T (n + 1)) (.nm 2) bYes (eCall 25 (evs [eV 2])) [some (.dat (.tup ps)), some sv, none, none, none]) (g := fun d => .bl (isC d)) (μ := μ) (by
      intro d _
      have e := l_isCount (n := n) (μ := μ) d
      simp [asg, e]) (lim1 (by omega))
    have ba := bAll_map isC ps
    have lm : (ps.map fun d => D.bl (isC d)).length ≤ LIM := by rw [List.length_map]; exact lim1 (by omega)
    rw [cts_all] at ba
    generalize (ps.map fun d => D.bl (isC d)) = BL at *
    cases ec : cts ps with
    | none =>
      rw [ec] at ba
      rw [path_none ec]
      cases hp : ps.isEmpty with
      | true => rw [hp] at eu; simp [startE, isi_tup, eu, callEnd, EV.out]
      | false => rw [hp] at eu; simp [startE, isi_tup, eu, wipeE, lc, lm, ba, callEnd, EV.out]
    | some is =>
      rw [ec] at ba
      obtain ⟨rfl, h0⟩ := cts_eq ec
      by_cases hn : is = []
      · subst hn
        rw [show path (bL L) (.tup (List.map D.int [])) = false from rfl]
        simp at eu
        simp [startE, isi_tup, eu, callEnd, EV.out]
      · rw [path_eq ec hn]
        have he : (is.map D.int).isEmpty = false := by cases is <;> simp at hn ⊢
        rw [he] at eu
        have ng : (eNeg (eC (.int 1)) : SE) = fun F ρ X => .ok (.dat (.int (-1))) X := by rfl
        have il := last_ix is hn
        have cb := cut_but (is.map D.int)
        have db : (is.map D.int).dropLast = is.dropLast.map D.int := by rw [List.map_dropLast]
        rw [db] at cb
        have hx : 0 ≤ is.getLast hn := h0 _ (List.getLast_mem hn)
        have an := bL_any is.dropLast hx L
        obtain ⟨S, s1, s2, s3⟩ := hs.src
        generalize is.getLast hn = x at *
        have step : ∀ e ∈ L, lcStep (VM.run T (n + 1)) (.tup [.nm 3, .nm 4]) bYes (eAnd (eCmp (opCmp .Eq) (eV 3) (eSl (eV 0) (oNone) (oSome (eNeg (eC (.int 1)))))) (eCmp (opCmp .Lt) (eIx (eV 0) (eNeg (eC (.int 1)))) (eV 4))) [some (.dat (.tup (is.map D.int))), some sv, none, none, none] (encL e) μ = .ok (some (.bl (decide (e.1 = is.dropLast) && decide (x < e.2)))) μ := fun e _ => by
          have q := eq_ints e.1 is.dropLast
          simp only [ng, encL]
          by_cases c : e.1 = is.dropLast
          · simp [c] at q
            simp [asg, asgs, cb, oNone, oSome, c, q, il, c_lt]
          · simp [c] at q
            simp [asg, asgs, cb, oNone, oSome, c, q, il, c_lt]
        have lc2 := lc_mapE (enc := encL) (f := fun e => .bl (decide (e.1 = is.dropLast) && decide (x < e.2))) (μ := μ) L step (lim1 (by omega))
        have lcS := lc_src (S := S) s2 (fun d hd => by
          obtain ⟨e, he, rfl⟩ := List.mem_map.mp hd
          exact ⟨_, step e he⟩) (L.length + 1) 0
        rw [lc2] at lcS
        have bn := bAny_map (fun e : List Int × Int => decide (e.1 = is.dropLast) && decide (x < e.2)) L
        rw [an] at bn
        have lm2 : (L.map fun e => D.bl (decide (e.1 = is.dropLast) && decide (x < e.2))).length ≤ LIM := by rw [List.length_map]; exact lim1 (by omega)
        rw [List.length_map] at s3
        generalize (L.map fun e => D.bl (decide (e.1 = is.dropLast) && decide (x < e.2))) = BL2 at *
        have hml : List.length (is.map D.int) = is.length := by simp
        clear step lc2
        generalize is.map D.int = IM at *
        simp [startE, isi_tup, eu, wipeE, lc, lm, ba, s1, s3, lcS, lm2, bn, callEnd, EV.out]
  · have : path (bL L) p = false := by cases p <;> simp [isi] at ht <;> rfl
    rw [this]
    simp at ht
    simp [startE, ht, callEnd, EV.out]
end
end K51
set_option maxHeartbeats 0
/-! k51: trees, by the program. -/
namespace K51
open VM Law
open L2 (atI ixN)
def isTs (B : Kn) : D → Bool
  | .tup [.str w, p, s, a, b] => if isW w 1 then path B p && isSh s else if isW w 2 then path B p && path B s else false
  | _ => false
theorem isTr_5 {B : Kn} {w : PySem.Str} {p s a b : D} : isTr B (.tup [.str w, p, s, a, b]) = if isW w 1 then path B p && (isSh s && (isTr (upS B p s) a && isTr B b)) else if isW w 2 then path B p && (path B s && (isTr B a && isTr B b)) else false := by
  rw [isTr]
theorem isTr_o {B : Kn} {d : D} (h : ∀ w p s a b, d ≠ .tup [.str w, p, s, a, b]) : isTr B d = isLf d := by
  rw [isTr]
  intro w p s a b e
  exact h w p s a b e
theorem isTs_o {B : Kn} {d : D} (h : ∀ w p s a b, d ≠ .tup [.str w, p, s, a, b]) : isTs B d = false := by
  unfold isTs
  split
  · rename_i w p s a b
    exact absurd rfl (h w p s a b)
  · rfl
theorem lf_no5 {w : PySem.Str} {p s a b : D} : isLf (.tup [.str w, p, s, a, b]) = false := isLf_len _ (by simp)
theorem tr_leaf {B : Kn} {d : D} (h : isLf d = true) : isTr B d = true := by
  rw [isTr_o, h]
  rintro w p s a b rfl
  rw [lf_no5] at h; cases h
theorem tr_no {B : Kn} {d : D} (h : isLf d = false) (h2 : isTs B d = false) : isTr B d = false := by
  by_cases c : ∃ w p s a b, d = .tup [.str w, p, s, a, b]
  · obtain ⟨w, p, s, a, b, rfl⟩ := c
    rw [isTr_5]
    simp only [isTs] at h2
    by_cases h1 : isW w 1 = true
    · rw [if_pos h1] at h2 ⊢
      rw [← Bool.and_assoc, h2, Bool.false_and]
    · rw [if_neg h1] at h2 ⊢
      by_cases h3 : isW w 2 = true
      · rw [if_pos h3] at h2 ⊢
        rw [← Bool.and_assoc, h2, Bool.false_and]
      · rw [if_neg h3]
  · rw [isTr_o, h]
    intro w p s a b e
    exact c ⟨w, p, s, a, b, e⟩
section
variable {n : Nat} {μ : Sto}
theorem ix2 {a b c : D} {l : List D} : opIx (.tup (a :: b :: c :: l)) (.int 2) = some (.dat c) := by
  unfold opIx L2.atI L2.ixN
  simp only [List.length_cons]
  rw [if_pos (by omega), if_pos (by omega)]
  rfl
theorem ix3 {a b c d : D} {l : List D} : opIx (.tup (a :: b :: c :: d :: l)) (.int 3) = some (.dat d) := by
  unfold opIx L2.atI L2.ixN
  simp only [List.length_cons]
  rw [if_pos (by omega), if_pos (by omega)]
  rfl
theorem ix4 {a b c d e : D} {l : List D} : opIx (.tup (a :: b :: c :: d :: e :: l)) (.int 4) = some (.dat e) := by
  unfold opIx L2.atI L2.ixN
  simp only [List.length_cons]
  rw [if_pos (by omega), if_pos (by omega)]
  rfl
theorem w_notin : ∀ k : Fin 5, opCmp .NotIn (.str (wd k)) (.tup [.str "is", .str "same"]) = some (!(decide (k = 1) || decide (k = 2))) := by decide +kernel
theorem w_is : ∀ k : Fin 5, opCmp .Eq (.str (wd k)) (.str "is") = some (decide (k = 1)) := by decide +kernel
theorem w_same : ∀ k : Fin 5, opCmp .Eq (.str (wd k)) (.str "same") = some (decide (k = 2)) := by decide +kernel
theorem w_near : ∀ k : Fin 5, opCmp .Eq (.str (wd k)) (.str "nearest") = some (decide (k = 0)) := by decide +kernel
theorem s_test (d : D) (h : gv d = true) (many : Int) (K : KL) : VM.run T (n + 7) 17 [.dat d, .dat (.int many), .dat (kD K)] μ = .ok (.dat (.bl (isTs (bK many K) d))) μ := by
  rw [run_at (nl := 3) (b := P_is_test) (by rfl)]
  unfold P_is_test
  cases d with
  | tup ds =>
    by_cases hl : ds.length ≠ 5
    · have q : opCmp .NotEq (.int (ds.length : Nat)) (.int 5) = some true := by
        simp only [opCmp, opEq_int, Option.map_some]
        congr 1
        simp; omega
      rw [isTs_o (by rintro w p s a b e; cases e; simp at hl)]
      simp [startE, isi_tup, bLen_tup, q, callEnd, EV.out]
    match ds, h with
    | [], _ => exact absurd (by decide) hl
    | [_], _ => exact absurd (by simp) hl
    | [_, _], _ => exact absurd (by simp) hl
    | [_, _, _], _ => exact absurd (by simp) hl
    | [_, _, _, _], _ => exact absurd (by simp) hl
    | _ :: _ :: _ :: _ :: _ :: _ :: r, _ => exact absurd (by simp) hl
    | [w, p, s, a, b], h =>
      have q1 : opCmp .NotEq (.int 5) (.int 5) = some false := by rfl
      have i0 : opIx (.tup [w, p, s, a, b]) (.int 0) = some (.dat w) := ix0
      have i1 : opIx (.tup [w, p, s, a, b]) (.int 1) = some (.dat p) := ix1
      have i2 : opIx (.tup [w, p, s, a, b]) (.int 2) = some (.dat s) := ix2
      simp only [gv, Bool.and_eq_true] at h
      obtain ⟨_, hw, hp, hs, hso, _, _⟩ := h
      cases w with
      | str w =>
        obtain ⟨k, rfl⟩ := wOk_eq hw
        have e1 := w_notin k
        have e2 := w_is k
        have e3 := s_known (n := n + 3) (μ := μ) p hp many K
        have e4 := s_known (n := n + 3) (μ := μ) s hs many K
        have e5 := s_shape (n := n) (μ := μ) s hso
        simp only [isTs, isW_wd]
        generalize path (bK many K) p = pp at *
        generalize path (bK many K) s = ps at *
        generalize isSh s = ss at *
        generalize kD K = KK at *
        by_cases c1 : k = 1
        · subst c1
          cases pp <;> simp at e1 e2 <;> simp [startE, isi_tup, isi_str, bLen_tup, q1, i0, i1, i2, e1, e2, e3, e5, callEnd, EV.out]
        · by_cases c2 : k = 2
          · subst c2
            cases pp <;> simp at e1 e2 <;> simp [startE, isi_tup, isi_str, bLen_tup, q1, i0, i1, i2, e1, e2, e3, e4, callEnd, EV.out]
          · simp [c1, c2] at e1
            simp [startE, isi_tup, isi_str, bLen_tup, q1, i0, e1, c1, c2, callEnd, EV.out]
      | _ =>
        rw [isTs_o (by rintro w p s a b e; cases e)]
        simp [startE, isi_tup, isi, bLen_tup, q1, ix0, callEnd, EV.out]
  | _ =>
    rw [isTs_o (by rintro w p s a b e; cases e)]
    simp [startE, isi, callEnd, EV.out]
/-- what is known within the yes of a test -/
theorem s_behind {w : PySem.Str} {p s a b : D} {many : Int} {K : KL} (h : isTs (bK many K) (.tup [.str w, p, s, a, b]) = true) (hp : pOk p = true) (g : GK K) (hl : K.length ≤ 4000) :
    ∃ v K', VM.run T (n + 3) 18 [.dat (.tup [.str w, p, s, a, b]), .dat (kD K)] μ = .ok v μ ∧ (∀ X, v.frz X = some (kD K', X)) ∧ GK K' ∧ K'.length ≤ K.length + 1 ∧ isTr (bK many K) (.tup [.str w, p, s, a, b]) = (isTr (bK many K') a && isTr (bK many K) b) := by
  rw [run_at (nl := 3) (b := P_known_behind) (by rfl)]
  unfold P_known_behind
  have i0 : opIx (.tup [.str w, p, s, a, b]) (.int 0) = some (.dat (.str w)) := ix0
  have i1 : opIx (.tup [.str w, p, s, a, b]) (.int 1) = some (.dat p) := ix1
  have i2 : opIx (.tup [.str w, p, s, a, b]) (.int 2) = some (.dat s) := ix2
  rw [isTr_5]
  simp only [isTs] at h
  by_cases c2 : isW w 2 = true
  · have e := isW_eq c2
    subst e
    have hn : isW (wd 2) 1 = false := by decide +kernel
    rw [hn] at h ⊢
    simp only [Bool.false_eq_true, if_false, c2, if_true] at h ⊢
    rw [Bool.and_eq_true] at h
    have q : opCmp .Eq (.str (wd 2)) (.str "same") = some true := by decide +kernel
    refine ⟨.dat (kD K), K, ?_, fun X => rfl, g, Nat.le_succ _, by rw [h.1, h.2]; rfl⟩
    simp [startE, i0, q, callEnd, EV.out]
  · by_cases c1 : isW w 1 = true
    · have e := isW_eq c1
      subst e
      rw [if_pos c1] at h ⊢
      rw [Bool.and_eq_true] at h
      have q : opCmp .Eq (.str (wd 1)) (.str "same") = some false := by decide +kernel
      have e0 := s_isInt (n := n + 1) (μ := μ) s
      cases s with
      | int i =>
        simp only [isI] at e0
        refine ⟨.dat (kD K), K, ?_, fun X => rfl, g, Nat.le_succ _, by rw [h.1, h.2]; rfl⟩
        simp [startE, i0, i2, q, e0, callEnd, EV.out]
      | tup ds =>
        have hsh := h.2
        have : ∃ x m, ds = [.str x, .int m] := by
          unfold isSh at hsh
          split at hsh
          · rename_i e; cases e
          · rename_i x m e; cases e; exact ⟨x, m, rfl⟩
          · cases hsh
        obtain ⟨x, m, rfl⟩ := this
        simp only [isI] at e0
        -- the path
        have hpa := h.1
        cases p <;> try (simp [path] at hpa; done)
        rename_i ps
        cases ec : cts ps with
        | none => rw [path_none ec] at hpa; cases hpa
        | some is =>
          by_cases hn : is = []
          · subst hn
            obtain ⟨rfl, _⟩ := cts_eq ec
            rw [show path (bK many K) (.tup (List.map D.int [])) = false from rfl] at hpa
            cases hpa
          · have hd := pOk_dom hp ec hn
            obtain ⟨rfl, _⟩ := cts_eq ec
            have cp := copy_k g (by omega)
            have tk := tkey_ints is
            have tg := tget_k is K
            have bb : bK many K is = (look K is).getD 0 := by simp [bK, hn]
            have mx : bMax [.int m, .int (bK many K is)] = some (.dat (.int (max m (bK many K is)))) := by
              simp only [bMax, toInts, Option.map_some, maxI]
              congr 3
              omega
            have pu := tput_k is (max m (bK many K is)) K
            have nd := ndT_k K g.nd
            have ll : (kk K).length < LIM := by unfold kk; rw [List.length_map]; exact lim2 (by omega)
            refine ⟨.new (.dct (kk (put K is (max m (bK many K is)))) (kv (put K is (max m (bK many K is))))), put K is (max m (bK many K is)), ?_, fun X => rfl, g.put hd, put_len, ?_⟩
            · have i21 : opIx (.tup [.str x, .int m]) (.int 1) = some (.dat (.int m)) := ix1
              have at1 : VM.putAt (.dct (kk K) (kv K)) (.tup (is.map .int)) (.int (max m (bK many K is))) = some (.dct (kk (put K is (max m (bK many K is)))) (kv (put K is (max m (bK many K is))))) := by
                simp only [VM.putAt, tk, nd, ll, decide_true, Bool.and_self, if_true, pu]
              have gt : (tget (kk K) (kv K) (inlL is) = none ∧ bK many K is = 0) ∨ tget (kk K) (kv K) (inlL is) = some (.int (bK many K is)) := by
                rw [tg, bb]
                cases look K is
                · exact .inl ⟨rfl, rfl⟩
                · exact .inr rfl
              generalize max m (bK many K is) = mm at *
              generalize bK many K is = b0 at *
              generalize hP : put K is mm = KP at *
              clear hpa h hp ec bb pu
              generalize is.map D.int = IM at *
              simp only [kD] at cp ⊢
              generalize kk K = k1 at *
              generalize kv K = v1 at *
              generalize kk KP = k2 at *
              generalize kv KP = v2 at *
              rcases gt with ⟨gt, rfl⟩ | gt
              · simp [startE, i0, i1, i2, i21, q, e0, cp, tk, gt, mx, gSb, at1, callEnd, EV.out]
              · simp [startE, i0, i1, i2, i21, q, e0, cp, tk, gt, mx, gSb, at1, callEnd, EV.out]
            · have e1 : pthI (.tup (is.map .int)) = is := by simp only [pthI, ec, Option.getD_some]
              simp only [upS, e1]
              rw [bK_put hn, h.1, h.2]
              simp
      | _ => exact absurd h.2 (by simp [isSh])
    · rw [if_neg c1, if_neg c2] at h; cases h
end
end K51
set_option maxHeartbeats 0
/-! k51: the program's loop. -/
namespace K51
open VM Law
open L2 (atI ixN)
def enc (q : D × KL) : D := .tup [q.1, kD q.2]
def stC (L : List (D × KL)) : Cell := ⟨true, .lst (L.map enc).reverse⟩
theorem isTs_inv {B : Kn} {d : D} (h : isTs B d = true) : ∃ w p s a b, d = .tup [.str w, p, s, a, b] := by
  by_cases c : ∃ w p s a b, d = .tup [.str w, p, s, a, b]
  · exact c
  · rw [isTs_o (fun w p s a b e => c ⟨w, p, s, a, b, e⟩)] at h; cases h
/-- a list of things to be looked at, from the end on, each by itself -/
theorem chk_loop {α : Type} (enc : α → D) (ok : α → Bool) (size : α → Nat) (good : α → Prop) (okρ : Env → Prop) (B : Nat) {c : Env → Sto → Res Bool} {b : Env → Sto → Res SO} {μ : Sto}
    (hc : ∀ ρ L, okρ ρ → c ρ (μ ++ [⟨true, .lst (L.map enc).reverse⟩]) = .ok (!(L : List α).isEmpty) (μ ++ [⟨true, .lst (L.map enc).reverse⟩]))
    (hb : ∀ ρ x L, okρ ρ → good x → (L.map size).sum + size x ≤ B →
      (ok x = false ∧ ∃ X, b ρ (μ ++ [⟨true, .lst (((x : α) :: L).map enc).reverse⟩]) = .ok (.rt (.dat (.bl false))) X ∧ X.take μ.length = μ) ∨
      ∃ ks ρ', ok x = ks.all ok ∧ (ks.map size).sum + 1 ≤ size x ∧ (∀ y ∈ ks, good y) ∧ okρ ρ' ∧ b ρ (μ ++ [⟨true, .lst ((x :: L).map enc).reverse⟩]) = .ok (.nx ρ') (μ ++ [⟨true, .lst ((ks ++ L).map enc).reverse⟩])) :
    ∀ (m fuel : Nat) (ρ : Env) (L : List α), okρ ρ → (∀ x ∈ L, good x) → (L.map size).sum ≤ m → m < fuel → m ≤ B →
      (L.all ok = true ∧ ∃ ρ', okρ ρ' ∧ whL c b fuel ρ (μ ++ [⟨true, .lst (L.map enc).reverse⟩]) = .ok (.nx ρ') (μ ++ [⟨true, .lst []⟩])) ∨
      (L.all ok = false ∧ ∃ X, whL c b fuel ρ (μ ++ [⟨true, .lst (L.map enc).reverse⟩]) = .ok (.rt (.dat (.bl false))) X ∧ X.take μ.length = μ)
  | m, 0, ρ, L, _, _, _, hf, _ => by omega
  | m, fuel + 1, ρ, [], ho, hg, hs, hf, hB => by
    refine .inl ⟨rfl, ρ, ho, ?_⟩
    unfold whL
    rw [hc ρ [] ho]
    simp
  | m, fuel + 1, ρ, x :: L, ho, hg, hs, hf, hB => by
    have gx := hg x List.mem_cons_self
    have gL : ∀ y ∈ L, good y := fun y hy => hg y (List.mem_cons_of_mem _ hy)
    rw [List.map_cons, List.sum_cons] at hs
    have c1 := hc ρ (x :: L) ho
    rcases hb ρ x L ho gx (by omega) with ⟨h1, X, h2, h3⟩ | ⟨ks, ρ', h1, h2, h3, h4, h5⟩
    · refine .inr ⟨by rw [List.all_cons, h1, Bool.false_and], X, ?_, h3⟩
      unfold whL
      rw [c1]
      simp only [List.isEmpty_cons, Bool.not_false, Res.bind_ok, h2]
    · have hm : ((ks ++ L).map size).sum = (ks.map size).sum + (L.map size).sum := by rw [List.map_append, List.sum_append]
      have e : (x :: L).all ok = (ks ++ L).all ok := by rw [List.all_cons, h1, List.all_append]
      rw [e]
      have w : whL c b (fuel + 1) ρ (μ ++ [⟨true, .lst ((x :: L).map enc).reverse⟩]) = whL c b fuel ρ' (μ ++ [⟨true, .lst ((ks ++ L).map enc).reverse⟩]) := by
        conv => lhs; unfold whL
        rw [c1]
        simp only [List.isEmpty_cons, Bool.not_false, Res.bind_ok, h5]
      rw [w]
      exact chk_loop enc ok size good okρ B hc hb (m - 1) fuel ρ' (ks ++ L) h4 (fun y hy => (List.mem_append.mp hy).elim (h3 y) (gL y)) (by rw [hm]; omega) (by omega) (by omega)
section
variable {n : Nat} {μ : Sto}
def oT (many : Int) (v : D) (k : Nat) (ρ : Env) : Prop := ∃ o3 o4, ρ = [some (.dat (.int many)), some (.dat v), some (.cel k), o3, o4]
theorem len_sum {α : Type} {f : α → Nat} (h : ∀ x, 1 ≤ f x) : ∀ L : List α, L.length ≤ (L.map f).sum
  | [] => by simp
  | a :: L => by
    have := len_sum h L
    have := h a
    simp; omega
theorem tree_loop {many : Int} {v : D} : ∀ (m fuel : Nat) (ρ : Env) (L : List (D × KL)), oT many v μ.length ρ → (∀ q ∈ L, gv q.1 = true ∧ GK q.2 ∧ q.2.length + tn q.1 ≤ 3500) → (L.map fun q => tn q.1).sum ≤ m → m < fuel → m ≤ 3000 →
      (L.all (fun q => isTr (bK many q.2) q.1) = true ∧ ∃ ρ', oT many v μ.length ρ' ∧ whL ((bCmp (opCmp .NotEq) (eV 2) (eLst (evs []))) (VM.run T (n + 7))) ((sSeq (sAsg (eCM aPop (eV 2) (evs [])) (gTp [gNm 3, gNm 4])) (sIf (bNot (bTru (eCall 14 (evs [eV 3])))) (sSeq (sIf (bNot (bTru (eCall 17 (evs [eV 3, eV 0, eV 4])))) (sRet (eC (.bl false))) (sPass)) (sDrop (eCM aExtend (eV 2) (evs [eLst (evs [eTup (evs [eIx (eV 3) (eC (.int 4)), eV 4]), eTup (evs [eIx (eV 3) (eC (.int 3)), eCall 18 (evs [eV 3, eV 4])])])])))) (sPass))) (VM.run T (n + 7))) fuel ρ (μ ++ [⟨true, .lst (L.map enc).reverse⟩]) = .ok (.nx ρ') (μ ++ [⟨true, .lst []⟩])) ∨
      (L.all (fun q => isTr (bK many q.2) q.1) = false ∧ ∃ X, whL ((bCmp (opCmp .NotEq) (eV 2) (eLst (evs []))) (VM.run T (n + 7))) ((sSeq (sAsg (eCM aPop (eV 2) (evs [])) (gTp [gNm 3, gNm 4])) (sIf (bNot (bTru (eCall 14 (evs [eV 3])))) (sSeq (sIf (bNot (bTru (eCall 17 (evs [eV 3, eV 0, eV 4])))) (sRet (eC (.bl false))) (sPass)) (sDrop (eCM aExtend (eV 2) (evs [eLst (evs [eTup (evs [eIx (eV 3) (eC (.int 4)), eV 4]), eTup (evs [eIx (eV 3) (eC (.int 3)), eCall 18 (evs [eV 3, eV 4])])])])))) (sPass))) (VM.run T (n + 7))) fuel ρ (μ ++ [⟨true, .lst (L.map enc).reverse⟩]) = .ok (.rt (.dat (.bl false))) X ∧ X.take μ.length = μ) := by
  refine chk_loop enc (fun q => isTr (bK many q.2) q.1) (fun q => tn q.1) (fun q => gv q.1 = true ∧ GK q.2 ∧ q.2.length + tn q.1 ≤ 3500) (oT many v μ.length) 3000 ?_ ?_
  · rintro ρ L ⟨o3, o4, rfl⟩
    have v2 : (EV.cel μ.length).see (μ ++ [⟨true, .lst (L.map enc).reverse⟩]) = some (.lst (L.map enc).reverse) := by simp [EV.see]
    have := ne_nil (L.map enc).reverse
    have e : ((L.map enc).reverse).isEmpty = L.isEmpty := by cases L <;> simp
    rw [e] at this
    generalize (L.map enc).reverse = LL at *
    simp [v2, this]
  · rintro ρ ⟨d, K⟩ L ⟨o3, o4, rfl⟩ ⟨gd, gk, kl⟩ hB
    simp only at gd gk kl hB ⊢
    have ll := len_sum (f := fun q : D × KL => tn q.1) (fun q => tn_pos q.1) L
    have e14 := s_leaf (n := n + 4) (μ := μ ++ [⟨true, .lst (L.map enc).reverse⟩]) d gd
    have e17 := s_test (n := n) (μ := μ ++ [⟨true, .lst (L.map enc).reverse⟩]) d gd many K
    have pop : aPop (List.map enc ((d, K) :: L)).reverse [] = some (.tup [d, kD K], (List.map enc L).reverse) := by
      rw [List.map_cons, List.reverse_cons]
      exact aPop_c
    have lr : (List.map enc L).reverse.length ≤ 3000 := by rw [List.length_reverse, List.length_map]; omega
    cases hlf : isLf d with
    | true =>
      rw [hlf] at e14
      refine .inr ⟨[], [some (.dat (.int many)), some (.dat v), some (.cel μ.length), some (.dat d), some (.dat (kD K))], ?_, ?_, by simp, ⟨_, _, rfl⟩, ?_⟩
      · rw [tr_leaf hlf]; rfl
      · have := tn_pos d; simpa using this
      · rw [List.nil_append]
        generalize kD K = KK at *
        generalize (List.map enc ((d, K) :: L)).reverse = A1 at *
        generalize (List.map enc L).reverse = A2 at *
        simp [pop, e14]
    | false =>
      rw [hlf] at e14
      cases hts : isTs (bK many K) d with
      | false =>
        rw [hts] at e17
        refine .inl ⟨tr_no hlf hts, μ ++ [⟨true, .lst (L.map enc).reverse⟩], ?_, by simp⟩
        generalize kD K = KK at *
        generalize (List.map enc ((d, K) :: L)).reverse = A1 at *
        generalize (List.map enc L).reverse = A2 at *
        simp [pop, e14, e17]
      | true =>
        rw [hts] at e17
        obtain ⟨w, p, s, a, b, rfl⟩ := isTs_inv hts
        have gd' := gd
        simp only [gv, Bool.and_eq_true] at gd'
        obtain ⟨_, _, hp, _, _, ga, gb⟩ := gd'
        have tn5 : tn (.tup [.str w, p, s, a, b]) = 1 + tn a + tn b := by rw [tn]
        obtain ⟨v1, K', e18, f18, gk', kl', etr⟩ := s_behind (n := n + 4) (μ := μ ++ [⟨true, .lst (L.map enc).reverse⟩]) hts hp gk (by omega)
        refine .inr ⟨[(a, K'), (b, K)], [some (.dat (.int many)), some (.dat v), some (.cel μ.length), some (.dat (.tup [.str w, p, s, a, b])), some (.dat (kD K))], ?_, ?_, ?_, ⟨_, _, rfl⟩, ?_⟩
        · rw [etr]; simp
        · simp; omega
        · intro y hy
          rcases List.mem_cons.mp hy with rfl | hy
          · exact ⟨ga, gk', by simp only; omega⟩
          · rw [List.mem_singleton.mp hy]
            exact ⟨gb, gk, by simp only; omega⟩
        · have i3 : opIx (.tup [.str w, p, s, a, b]) (.int 3) = some (.dat a) := ix3
          have i4 : opIx (.tup [.str w, p, s, a, b]) (.int 4) = some (.dat b) := ix4
          have ex : aExtend (List.map enc L).reverse [.lst [.tup [b, kD K], .tup [a, kD K']]] = some (.non, (List.map enc L).reverse ++ [.tup [b, kD K], .tup [a, kD K']]) := aExtend_c (lim1 (by simp only [List.length_cons, List.length_nil]; omega))
          have fin : (List.map enc ([(a, K'), (b, K)] ++ L)).reverse = (List.map enc L).reverse ++ [.tup [b, kD K], .tup [a, kD K']] := by
            simp [enc]
          rw [fin]
          generalize kD K' = KK' at *
          generalize kD K = KK at *
          generalize (List.map enc ((D.tup [.str w, p, s, a, b], K) :: L)).reverse = A1 at *
          generalize (List.map enc L).reverse = A2 at *
          generalize D.tup [.str w, p, s, a, b] = dd at *
          simp [pop, e14, e17, i3, i4, e18, f18, ex]
theorem s_tree_of {many : Int} {v : D} (hv : gv v = true) (ht : tn v ≤ 3000) : VM.run T (n + 8) 19 [.dat (.int many), .dat v] μ = .ok (.dat (.bl (isTr (bK many []) v))) μ := by
  rw [run_at (nl := 5) (b := P_is_tree_of) (by rfl)]
  unfold P_is_tree_of
  have w := tree_loop (n := n) (μ := μ) (many := many) (v := v) (tn v) LIM [some (.dat (.int many)), some (.dat v), some (.cel μ.length), none, none] [(v, [])] ⟨none, none, rfl⟩ (by
    intro q hq
    rw [List.mem_singleton.mp hq]
    exact ⟨hv, GK.nil, by simp only [List.length_nil]; omega⟩) (by simp) (lim2 (by omega)) ht
  have s0 : ((sSet 2 (eLst (evs [eTup (evs [eV 1, eDictT0])]))) : SS) (VM.run T (n + 7)) (startE 5 [.dat (.int many), .dat v]) μ = .ok (.nx [some (.dat (.int many)), some (.dat v), some (.cel μ.length), none, none]) (μ ++ [⟨true, .lst (List.map enc [(v, [])]).reverse⟩]) := by
    simp [startE, enc, kD, kk, kv]
  rw [xs_seq, s0]
  simp only [xs_seq, xs_while]
  rcases w with ⟨h1, ρ', ⟨o3, o4, rfl⟩, w⟩ | ⟨h1, X, w, hX⟩
  · rw [w]
    simp only [List.all_cons, List.all_nil, Bool.and_true] at h1
    rw [h1]
    simp [callEnd, EV.out]
  · rw [w]
    simp only [List.all_cons, List.all_nil, Bool.and_true] at h1
    rw [h1]
    simp [callEnd, EV.out, hX]
theorem s_tree {many : Int} {v : D} (h0 : 0 ≤ many) (h8 : many ≤ 8) (hv : gv v = true) (ht : tn v ≤ 3000) : VM.run T (n + 9) 21 [.dat (.int many), .dat v] μ = .ok (.dat (.bl (isTr (bK many []) v))) μ := by
  rw [run_at (nl := 2) (b := P_is_tree) (by rfl)]
  unfold P_is_tree
  have e1 : VM.run T (n + 8) 20 [.dat (.int many)] μ = .ok (.dat (.int many)) μ := by
    rw [run_at (nl := 1) (b := P_want_tree_count) (by rfl)]
    unfold P_want_tree_count
    have e := s_isCount (n := n + 5) (μ := μ) (.int many)
    have q : opCmp .Gt (.int many) (.int 8) = some false := by
      show some (decide (8 < many)) = _
      congr 1; simp; omega
    simp [isC, h0] at e
    simp [startE, e, q, callEnd, EV.out]
  have e2 := s_tree_of (n := n) (μ := μ) (many := many) hv ht
  simp [startE, e1, e2, callEnd, EV.out]
end
end K51
set_option maxHeartbeats 0
/-! k51: trees, by the law's own eye. -/
namespace K51
open VM Law
open L2 (atI ixN)
theorem rise_cons {a : Int} : ∀ {l : List Int}, rise (a :: l) = true ↔ rise l = true ∧ ∀ b, l.head? = some b → a < b
  | [] => by simp [rise]
  | b :: r => by simp [rise, and_comm]
theorem ins_head {a x b : Int} : ∀ {l : List Int}, (∀ b, l.head? = some b → a < b) → a < x → (insU ltI x l).head? = some b → a < b
  | [], _, h, e => by simp [insU] at e; omega
  | y :: ys, hl, h, e => by
    have := hl y rfl
    unfold insU at e
    split at e
    · simp at e; omega
    · split at e
      · simp at e; omega
      · simp at e; omega
theorem rise_ins (x : Int) : ∀ l : List Int, rise l = true → rise (insU ltI x l) = true
  | [], _ => rfl
  | y :: ys, h => by
    obtain ⟨h1, h2⟩ := rise_cons.mp h
    unfold insU
    by_cases c1 : ltI x y = true
    · rw [if_pos c1]
      refine rise_cons.mpr ⟨h, fun b hb => ?_⟩
      simp [ltI] at c1
      simp at hb; omega
    · rw [if_neg c1]
      by_cases c2 : ltI y x = true
      · rw [if_pos c2]
        have c2' : y < x := by simpa [ltI] using c2
        exact rise_cons.mpr ⟨rise_ins x ys h1, fun b hb => ins_head h2 c2' hb⟩
      · rw [if_neg c2]; exact h
theorem rise_sort : ∀ l : List Int, rise (sortU ltI l) = true
  | [] => rfl
  | x :: l => rise_ins x _ (rise_sort l)
theorem sort_rise : ∀ l : List Int, rise l = true → sortU ltI l = l
  | [], _ => rfl
  | x :: l, h => by
    obtain ⟨h1, h2⟩ := rise_cons.mp h
    rw [sortU, sort_rise l h1]
    cases l with
    | nil => rfl
    | cons b r =>
      have : ltI x b = true := by simpa [ltI] using h2 b rfl
      unfold insU
      rw [if_pos this]
theorem eq_sort (l : List Int) : decide (l = sortU ltI l) = rise l := by
  rw [Bool.eq_iff_iff, decide_eq_true_iff]
  constructor
  · intro h; rw [h]; exact rise_sort l
  · intro h; exact (sort_rise l h).symm
theorem eq_lints (a b : List Int) : opCmp .Eq (.lst (a.map .int)) (.lst (b.map .int)) = some (decide (a = b)) := by
  have h1 : fits 64 (.lst (a.map .int)) = true := by simp only [fits]; exact fits_is a 63
  have h2 : fits 64 (.lst (b.map .int)) = true := by simp only [fits]; exact fits_is b 63
  simp only [opCmp, opEq, opEq0, txEq, h1, h2, eqv, eqvs_is]
  rfl
theorem intsD_map : ∀ l : List Int, intsD (l.map .int) = some l
  | [] => rfl
  | a :: l => by simp only [List.map_cons, intsD, intsD_map l, Option.map_some]
section
variable {n : Nat} {μ : Sto}
theorem l_leaf (d : D) (hg : gv d = true) {r : List D} (hd : d = .tup (.str (wd 0) :: r)) : VM.run T (n + 2) 29 [.dat d] μ = .ok (.dat (.bl (isLf d))) μ := by
  subst hd
  rw [run_at (nl := 2) (b := P__law_is_leaf) (by rfl)]
  unfold P__law_is_leaf
  by_cases hl : (D.str (wd 0) :: r).length ≠ 2
  · have q : opCmp .NotEq (.int ((D.str (wd 0) :: r).length : Nat)) (.int 2) = some true := by
      simp only [opCmp, opEq_int, Option.map_some]
      congr 1
      simp at hl ⊢; omega
    rw [isLf_len _ hl]
    generalize (D.str (wd 0) :: r) = ds at *
    simp [startE, bLen_tup, q, callEnd, EV.out]
  match r, hl, hg with
  | [], hl, _ => exact absurd (by simp) hl
  | _ :: _ :: _, hl, _ => exact absurd (by simp) hl
  | [p], _, hg =>
    have q1 : opCmp .NotEq (.int 2) (.int 2) = some false := by rfl
    have i1 : opIx (.tup [.str (wd 0), p]) (.int 1) = some (.dat p) := ix1
    simp only [gv, Bool.and_eq_true] at hg
    have hl := hg.2.2
    have w0 : isW (wd 0) 0 = true := by decide +kernel
    simp only [isLf, w0, Bool.true_and]
    by_cases ht : isi .tuple p = true
    · obtain ⟨ps, rfl⟩ : ∃ ps, p = .tup ps := by cases p <;> simp [isi] at ht ⊢
      simp only [lOk, decide_eq_true_eq] at hl
      have lc := lc_map (s := ps) (step := lcStep (VM.run T (n + 1)) (.nm 1) bYes (eAnd (eCall 25 (evs [eV 1])) (eCmp (opCmp .Lt) (eV 1) (eC (.int 40)))) [some (.dat (.tup [.str (wd 0), .tup ps])), none]) (g := fun d => .bl (c40 d)) (μ := μ) (by
        intro d _
        have e := l_isCount (n := n) (μ := μ) d
        cases d with
        | int i => by_cases h : 0 ≤ i <;> simp [isC, h] at e <;> simp [asg, e, c40, h, opCmp, VM.opI]
        | _ => simp [isC] at e; simp [asg, e, c40]) (lim1 (by omega))
      have ba := bAll_map c40 ps
      have lm : (ps.map fun d => D.bl (c40 d)).length ≤ LIM := by rw [List.length_map]; exact lim1 (by omega)
      generalize (ps.map fun d => D.bl (c40 d)) = BL at *
      rw [c40_all] at ba
      cases ec : cts ps with
      | none =>
        rw [ec] at ba
        simp only [lfP, ec]
        simp [startE, isi_tup, bLen_tup, q1, i1, wipeE, lc, lm, ba, callEnd, EV.out]
      | some is =>
        rw [ec] at ba
        simp only at ba
        obtain ⟨rfl, h0⟩ := cts_eq ec
        simp only [lfP, ec]
        have hl2 : is.length ≤ 200 := by simpa using hl
        have bl : bList [.tup (is.map .int)] = some (.new (.lst (is.map .int))) := rfl
        have fs : fSsetT [.tup (is.map .int)] = some (.new (.lst ((sortU ltI is).map .int))) := by
          simp only [fSsetT]
          rw [if_pos (by rw [List.length_map]; omega), intsD_map]; rfl
        have qe := eq_lints is (sortU ltI is)
        rw [eq_sort] at qe
        generalize (sortU ltI is).map D.int = SM at *
        generalize is.map D.int = IM at *
        cases hh : is.all (fun i => decide (i < 40)) with
        | false =>
          rw [hh] at ba
          simp [startE, isi_tup, bLen_tup, q1, i1, wipeE, lc, lm, ba, callEnd, EV.out]
        | true =>
          rw [hh] at ba
          simp [startE, isi_tup, bLen_tup, q1, i1, wipeE, lc, lm, ba, bl, fs, qe, callEnd, EV.out]
    · have : lfP p = false := by cases p <;> simp [isi] at ht <;> rfl
      rw [this]
      simp at ht
      simp [startE, bLen_tup, q1, i1, ht, callEnd, EV.out]
theorem addL {xs ys : List D} (h : xs.length + ys.length ≤ 5000) : opBin .Add (.lst xs) (.lst ys) = some (.new (.lst (xs ++ ys))) := if_pos (lim1 h)
theorem gv_fit {ds : List D} (h : gv (.tup ds) = true) : fits 64 (.tup ds) = true := by
  match ds, h with
  | [], _ => rfl
  | [w], h => simp only [gv, Bool.and_eq_true] at h; exact h.1
  | [w, x], h => simp only [gv, Bool.and_eq_true] at h; exact h.1
  | [w, x, y], h => simp only [gv, Bool.and_eq_true] at h; exact h.1
  | [w, x, y, z], h => simp only [gv, Bool.and_eq_true] at h; exact h.1
  | [w, x, y, z, u], h => simp only [gv, Bool.and_eq_true] at h; exact h.1
  | w :: x :: y :: z :: u :: v :: r, h => simp only [gv, Bool.and_eq_true] at h; exact h.1
theorem gv_w {w : D} {r : List D} (h : gv (.tup (w :: r)) = true) : wOk w = true := by
  match r, h with
  | [], h => simp only [gv, Bool.and_eq_true] at h; exact h.2.1
  | [x], h => simp only [gv, Bool.and_eq_true] at h; exact h.2.1
  | [x, y], h => simp only [gv, Bool.and_eq_true] at h; exact h.2.1
  | [x, y, z], h => simp only [gv, Bool.and_eq_true] at h; exact h.2.1
  | [x, y, z, u], h => simp only [gv, Bool.and_eq_true] at h; exact h.2.1
  | x :: y :: z :: u :: v :: r, h => simp only [gv, Bool.and_eq_true] at h; exact h.2.1
theorem lf_word {w : PySem.Str} {r : List D} (h : isW w 0 = false) : isLf (.tup (.str w :: r)) = false := by
  match r with
  | [] => rfl
  | [p] => simp only [isLf, h, Bool.false_and]
  | _ :: _ :: _ => rfl
theorem path_inv {B : Kn} {p : D} (h : path B p = true) : ∃ is, p = .tup (is.map .int) ∧ pthI p = is := by
  cases p with
  | tup ps =>
    cases ec : cts ps with
    | none => rw [path_none ec] at h; cases h
    | some is => exact ⟨is, by rw [(cts_eq ec).1], by simp only [pthI, ec, Option.getD_some]⟩
  | _ => cases h
theorem l_tree : ∀ (m : Nat) (d : D) (L : KL) (sv : SV) (μ : Sto), td d ≤ m → gv d = true → Sq sv (L.map encL) μ → L.length + m ≤ 900 → VM.run T (n + 3 + m) 30 [.dat d, sv] μ = .ok (.dat (.bl (isTr (bL L) d))) μ
  | 0, d, L, sv, μ, hd, _, _, _ => by unfold td at hd; split at hd <;> omega
  | m + 1, d, L, sv, μ, hd, hg, hs, hL => by
    rw [show n + 3 + (m + 1) = (n + 3 + m) + 1 by omega, run_at (nl := 3) (b := P__law_is_tree) (by rfl)]
    unfold P__law_is_tree
    cases d with
    | tup ds =>
      have eu := eq_unit (gv_fit hg)
      match ds, hg, hd, eu with
      | [], _, _, eu =>
        rw [isTr_o (by rintro w p s a b e; cases e), isLf_len _ (by decide)]
        simp at eu
        simp [startE, isi_tup, eu, callEnd, EV.out]
      | w :: r, hg, hd, eu =>
        simp at eu
        have hw := gv_w hg
        have i0 : opIx (.tup (w :: r)) (.int 0) = some (.dat w) := ix0
        cases w with
        | str w =>
          obtain ⟨k, rfl⟩ := wOk_eq hw
          have e1 := w_near k
          by_cases c0 : k = 0
          · subst c0
            have e29 := l_leaf (n := n + 1 + m) (μ := μ) _ hg rfl
            rw [show n + 1 + m + 2 = n + 3 + m by omega] at e29
            have tr : isTr (bL L) (.tup (.str (wd 0) :: r)) = isLf (.tup (.str (wd 0) :: r)) := by
              by_cases c : ∃ p s a b, r = [p, s, a, b]
              · obtain ⟨p, s, a, b, rfl⟩ := c
                rw [isTr_5, lf_no5]
                have h1 : isW (wd 0) 1 = false := by decide +kernel
                have h2 : isW (wd 0) 2 = false := by decide +kernel
                rw [h1, h2]; rfl
              · refine isTr_o ?_
                rintro w p s a b e
                cases e
                exact c ⟨_, _, _, _, rfl⟩
            rw [tr]
            generalize isLf (.tup (.str (wd 0) :: r)) = bb at *
            simp [startE, isi_tup, isi_str, eu, i0, e1, e29, callEnd, EV.out]
          · have hlf : isLf (.tup (.str (wd k) :: r)) = false := lf_word (by rw [isW_wd]; simp [c0])
            have e1 : opCmp .Eq (.str (wd k)) (.str "nearest") = some false := by rw [e1]; simp [c0]
            have e2 := w_notin k
            by_cases c12 : k = 1 ∨ k = 2
            · have e2 : opCmp .NotIn (.str (wd k)) (.tup [.str "is", .str "same"]) = some false := by
                rw [e2]; rcases c12 with rfl | rfl <;> rfl
              by_cases hl : (D.str (wd k) :: r).length ≠ 5
              · have q : opCmp .NotEq (.int ((D.str (wd k) :: r).length : Nat)) (.int 5) = some true := by
                  simp only [opCmp, opEq_int, Option.map_some]
                  congr 1
                  simp at hl ⊢; omega
                rw [isTr_o (by rintro w p s a b e; cases e; simp at hl), hlf]
                have bl := bLen_tup (D.str (wd k) :: r)
                generalize ((D.str (wd k) :: r).length : Nat) = len at *
                simp [startE, isi_tup, isi_str, eu, i0, e1, e2, bl, q, callEnd, EV.out]
              match r, hl, hg, hd with
              | [], hl, _, _ => exact absurd (by simp) hl
              | [_], hl, _, _ => exact absurd (by simp) hl
              | [_, _], hl, _, _ => exact absurd (by simp) hl
              | [_, _, _], hl, _, _ => exact absurd (by simp) hl
              | _ :: _ :: _ :: _ :: _ :: _, hl, _, _ => exact absurd (by simp) hl
              | [p, s, a, b], _, hg, hd =>
                have q1 : opCmp .NotEq (.int 5) (.int 5) = some false := by rfl
                have i1 : opIx (.tup [.str (wd k), p, s, a, b]) (.int 1) = some (.dat p) := ix1
                have i2 : opIx (.tup [.str (wd k), p, s, a, b]) (.int 2) = some (.dat s) := ix2
                have i3 : opIx (.tup [.str (wd k), p, s, a, b]) (.int 3) = some (.dat a) := ix3
                have i4 : opIx (.tup [.str (wd k), p, s, a, b]) (.int 4) = some (.dat b) := ix4
                simp only [gv, Bool.and_eq_true] at hg
                obtain ⟨_, _, hp, hps, hso, ga, gb⟩ := hg
                rw [td] at hd
                have e28p := l_known (n := n + 1 + m) (μ := μ) p hp L (by omega) hs
                have e28s := l_known (n := n + 1 + m) (μ := μ) s hps L (by omega) hs
                rw [show n + 1 + m + 2 = n + 3 + m by omega] at e28p e28s
                have e27 := l_shape (n := n + 1 + m) (μ := μ) s hso
                rw [show n + 1 + m + 2 = n + 3 + m by omega] at e27
                have eb := l_tree m b L sv μ (by omega) gb hs (by omega)
                have ea := l_tree m a L sv μ (by omega) ga hs (by omega)
                have e3 := w_same k
                have sa := hs.arg
                have bnd : ∀ X, sv.ev.bnd X = (sv, X) := fun X => by
                  rcases hs with rfl | ⟨j, rfl, _⟩ <;> rfl
                rw [isTr_5, isW_wd, isW_wd]
                rcases c12 with rfl | rfl
                · -- is
                  have e3 : opCmp .Eq (.str (wd 1)) (.str "same") = some false := by decide +kernel
                  simp only [decide_true, if_true]
                  cases hpb : path (bL L) p with
                  | false =>
                    rw [hpb] at e28p
                    simp only [Bool.false_and]
                    simp [startE, isi_tup, isi_str, eu, i0, e1, e2, bLen_tup, q1, i1, sa, e28p, callEnd, EV.out]
                  | true =>
                    rw [hpb] at e28p
                    cases hsh : isSh s with
                    | false =>
                      rw [hsh] at e27
                      simp only [Bool.false_and, Bool.and_false]
                      simp [startE, isi_tup, isi_str, eu, i0, e1, e2, bLen_tup, q1, i1, i2, sa, e28p, bnd, e3, e27, callEnd, EV.out]
                    | true =>
                      rw [hsh] at e27
                      simp only [Bool.true_and]
                      cases s with
                      | int i =>
                        have us : upS (bL L) p (.int i) = bL L := rfl
                        rw [us]
                        have it : isi .tuple (.int i) = false := rfl
                        generalize isTr (bL L) a = ta at *
                        generalize isTr (bL L) b = tb at *
                        generalize hdd : D.tup [.str (wd 1), p, .int i, a, b] = dd at *
                        have it2 : isi .tuple dd = true := by rw [← hdd]; rfl
                        have bl : bLen [dd] = some (.dat (.int 5)) := by rw [← hdd]; rfl
                        cases ta <;> simp [startE, it2, isi_str, eu, i0, e1, e2, bl, q1, i1, i2, sa, e28p, bnd, e3, e27, it, i3, i4, ea, eb, callEnd, EV.out]
                      | tup ss =>
                        have : ∃ x y, ss = [.str x, .int y] := by
                          unfold isSh at hsh
                          split at hsh
                          · rename_i e; cases e
                          · rename_i e; cases e; exact ⟨_, _, rfl⟩
                          · cases hsh
                        obtain ⟨x, y, rfl⟩ := this
                        have i21 : opIx (.tup [.str x, .int y]) (.int 1) = some (.dat (.int y)) := ix1
                        obtain ⟨is, ep, epi⟩ := path_inv hpb
                        have us : upS (bL L) p (.tup [.str x, .int y]) = bL (L ++ [(is, y)]) := by
                          rw [bL_app]; simp only [upS, epi]
                        rw [us]
                        have el : encL (is, y) = .tup [p, .int y] := by rw [ep]; rfl
                        have ad := addL (xs := L.map encL) (ys := [.tup [p, .int y]]) (by simp; omega)
                        have em : L.map encL ++ [.tup [p, .int y]] = (L ++ [(is, y)]).map encL := by rw [List.map_append, ← el]; rfl
                        rw [em] at ad
                        have sn : Sq (.cel μ.length) ((L ++ [(is, y)]).map encL) (μ ++ [⟨true, .lst ((L ++ [(is, y)]).map encL)⟩]) := .inr ⟨_, rfl, by simp⟩
                        have ea := l_tree m a (L ++ [(is, y)]) (.cel μ.length) _ (by omega) ga sn (by simp; omega)
                        have eb := l_tree m b L sv _ (by omega) gb (hs.app [⟨true, .lst ((L ++ [(is, y)]).map encL)⟩]) (by omega)
                        have see := hs.see
                        generalize isTr (bL (L ++ [(is, y)])) a = ta at *
                        generalize isTr (bL L) b = tb at *
                        generalize (L ++ [(is, y)]).map encL = M2 at *
                        generalize L.map encL = M1 at *
                        generalize hse : D.tup [.str x, .int y] = se at *
                        have its : isi .tuple se = true := by rw [← hse]; rfl
                        generalize hdd : D.tup [.str (wd 1), p, se, a, b] = dd at *
                        have it2 : isi .tuple dd = true := by rw [← hdd]; rfl
                        have bl : bLen [dd] = some (.dat (.int 5)) := by rw [← hdd]; rfl
                        cases ta <;> simp [startE, it2, isi_str, eu, i0, e1, e2, bl, q1, i1, i2, sa, e28p, bnd, e3, e27, its, i21, see, ad, i3, i4, ea, eb, callEnd, EV.out]
                      | _ => simp [isSh] at hsh
                · -- same
                  have e3 : opCmp .Eq (.str (wd 2)) (.str "same") = some true := by decide +kernel
                  have n12 : decide ((2 : Fin 5) = 1) = false := by decide
                  simp only [n12, decide_true, if_true, Bool.false_eq_true, if_false]
                  generalize path (bL L) p = pp at *
                  generalize path (bL L) s = ps at *
                  generalize isTr (bL L) a = ta at *
                  generalize isTr (bL L) b = tb at *
                  generalize hdd : D.tup [.str (wd 2), p, s, a, b] = dd at *
                  have it2 : isi .tuple dd = true := by rw [← hdd]; rfl
                  have bl : bLen [dd] = some (.dat (.int 5)) := by rw [← hdd]; rfl
                  cases pp <;> cases ps <;> cases ta <;> simp [startE, it2, isi_str, eu, i0, e1, e2, bl, q1, i1, i2, sa, e28p, e28s, bnd, e3, i3, i4, ea, eb, callEnd, EV.out]
            · have c1 : ¬ k = 1 := fun h => c12 (.inl h)
              have c2 : ¬ k = 2 := fun h => c12 (.inr h)
              have e2 : opCmp .NotIn (.str (wd k)) (.tup [.str "is", .str "same"]) = some true := by rw [e2]; simp [c1, c2]
              have tr : isTr (bL L) (.tup (.str (wd k) :: r)) = false := by
                refine tr_no hlf ?_
                unfold isTs
                split
                · rename_i e; cases e
                  rw [isW_wd, isW_wd]; simp [c1, c2]
                · rfl
              rw [tr]
              simp [startE, isi_tup, isi_str, eu, i0, e1, e2, callEnd, EV.out]
        | _ =>
          have hlf : ∀ x, (∀ w, x ≠ D.str w) → isTr (bL L) (.tup (x :: r)) = false := fun x hx => by
            rw [isTr_o (by rintro w p s a b e; cases e; exact hx _ rfl)]
            unfold isLf
            split
            · rename_i e; cases e; exact absurd rfl (hx _)
            · rfl
          rw [hlf _ (by intro w e; cases e)]
          simp [startE, isi_tup, isi, eu, i0, callEnd, EV.out]
    | _ =>
      rw [isTr_o (by rintro w p s a b e; cases e)]
      simp [startE, isi, isLf, callEnd, EV.out]
end
end K51
set_option maxHeartbeats 0
/-! k51: drawn trees, as they are. -/
namespace K51
open VM Law
open L2 (atI ixN)
inductive Tr where
  | lf (ps : List Int)
  | is (p : List Int) (s : D) (a b : Tr)
  | same (p q : List Int) (a b : Tr)
def pD (p : List Int) : D := .tup (p.map .int)
def Tr.d : Tr → D
  | .lf ps => .tup [.str "nearest", pD ps]
  | .is p s a b => .tup [.str "is", pD p, s, a.d, b.d]
  | .same p q a b => .tup [.str "same", pD p, pD q, a.d, b.d]
def dpt : Tr → Nat
  | .lf _ => 1
  | .is _ _ a b => 1 + max (dpt a) (dpt b)
  | .same _ _ a b => 1 + max (dpt a) (dpt b)
def cnt : Tr → Nat
  | .lf _ => 1
  | .is _ _ a b => 1 + cnt a + cnt b
  | .same _ _ a b => 1 + cnt a + cnt b
def okp (p : List Int) : Bool := match p with
  | [] => false
  | a :: r => decide (0 ≤ a) && decide (a ≤ 7) && r.all (fun i => decide (0 ≤ i) && decide (i ≤ 1)) && decide (r.length ≤ 4)
def okl (ps : List Int) : Bool := decide (ps.length ≤ 2) && (ps.all (fun i => decide (0 ≤ i) && decide (i < 40)) && rise ps)
def oks (s : D) : Bool := isSh s && match s with
  | .tup [.str x, _] => (nmI x).isSome
  | .int _ => true
  | _ => false
def okT : Tr → Bool
  | .lf ps => okl ps
  | .is p s a b => okp p && (oks s && (okT a && okT b))
  | .same p q a b => okp p && (okp q && (okT a && okT b))
theorem dpt_pos (t : Tr) : 1 ≤ dpt t := by cases t <;> simp only [dpt] <;> omega
theorem tn_tr : ∀ t : Tr, tn t.d = cnt t
  | .lf _ => rfl
  | .is p s a b => by simp only [Tr.d, tn, cnt, tn_tr a, tn_tr b]
  | .same p q a b => by simp only [Tr.d, tn, cnt, tn_tr a, tn_tr b]
theorem td_tr : ∀ t : Tr, td t.d = dpt t
  | .lf _ => rfl
  | .is p s a b => by simp only [Tr.d, td, dpt, td_tr a, td_tr b]
  | .same p q a b => by simp only [Tr.d, td, dpt, td_tr a, td_tr b]
theorem fits_str {s : PySem.Str} (h : (s.cps.toList.all fun c => decide (c < 0x110000)) = true) (n : Nat) : fits n (.str s) = true := by
  cases n <;> simpa [fits] using h
theorem fits_nm (k : Fin 6) (n : Nat) : fits n (.str (nm k)) = true := fits_str (by revert k; decide +kernel) n
theorem fits_wd (k : Fin 5) (n : Nat) : fits n (.str (wd k)) = true := fits_str (by revert k; decide +kernel) n
theorem ftT (n : Nat) (ds : List D) : fits (n + 1) (.tup ds) = fitsAll n ds := by simp only [fits]
theorem faC (n : Nat) (d : D) (ds : List D) : fitsAll n (d :: ds) = (fits n d && fitsAll n ds) := by simp only [fitsAll]
theorem faN (n : Nat) : fitsAll n [] = true := by simp only [fitsAll]
theorem fits_p (p : List Int) (n : Nat) : fits (n + 1) (pD p) = true := by
  unfold pD
  simp only [fits]
  exact fits_is p n
theorem oks_inv {s : D} (h : oks s = true) : (∃ i, s = .int i) ∨ ∃ k m, s = .tup [.str (nm k), .int m] ∧ nmP k = true ∧ 0 ≤ m ∧ m ≤ 8 := by
  simp only [oks, Bool.and_eq_true] at h
  cases s with
  | int i => exact .inl ⟨i, rfl⟩
  | tup ds =>
    have h1 := h.1
    unfold isSh at h1
    split at h1
    · rename_i e; cases e
    · rename_i x m e
      cases e
      cases ek : nmI x with
      | none => rw [ek] at h1; cases h1
      | some k =>
        rw [ek] at h1
        have := nmI_eq ek
        subst this
        simp only [Bool.and_eq_true, decide_eq_true_eq] at h1
        exact .inr ⟨k, m, rfl, h1.1, h1.2.1, h1.2.2⟩
    · cases h1
  | _ => simp [isSh] at h
theorem fits_s {s : D} (h : oks s = true) (n : Nat) : fits (n + 1) s = true := by
  rcases oks_inv h with ⟨i, rfl⟩ | ⟨k, m, rfl, _⟩
  · exact fits_i _ _
  · simp only [ftT, faC, faN, fits_nm, fits_i, Bool.and_self]
theorem fits_tr : ∀ (t : Tr) (n : Nat), okT t = true → dpt t + 2 ≤ n → fits n t.d = true
  | t, 0, _, h => by omega
  | .lf ps, n + 1, _, h => by
    simp only [dpt] at h
    obtain ⟨m, rfl⟩ : ∃ m, n = m + 1 := ⟨n - 1, by omega⟩
    have fw : fits (m + 1) (.str "nearest") = true := fits_wd 0 _
    simp only [Tr.d, ftT, faC, faN, fits_p, fw, Bool.and_self]
  | .is p s a b, n + 1, ho, h => by
    simp only [dpt] at h
    have := dpt_pos a
    obtain ⟨m, rfl⟩ : ∃ m, n = m + 1 := ⟨n - 1, by omega⟩
    simp only [okT, Bool.and_eq_true] at ho
    obtain ⟨h1, h2, h3, h4⟩ := ho
    have fa := fits_tr a (m + 1) h3 (by omega)
    have fb := fits_tr b (m + 1) h4 (by omega)
    have fw : fits (m + 1) (.str "is") = true := fits_wd 1 _
    simp only [Tr.d, ftT, faC, faN, fits_p, fits_s h2, fa, fb, fw, Bool.and_self]
  | .same p q a b, n + 1, ho, h => by
    simp only [dpt] at h
    have := dpt_pos a
    obtain ⟨m, rfl⟩ : ∃ m, n = m + 1 := ⟨n - 1, by omega⟩
    simp only [okT, Bool.and_eq_true] at ho
    obtain ⟨h1, h2, h3, h4⟩ := ho
    have fa := fits_tr a (m + 1) h3 (by omega)
    have fb := fits_tr b (m + 1) h4 (by omega)
    have fw : fits (m + 1) (.str "same") = true := fits_wd 2 _
    simp only [Tr.d, ftT, faC, faN, fits_p, fa, fb, fw, Bool.and_self]
theorem okp_ints {p : List Int} (h : okp p = true) : (∀ i ∈ p, 0 ≤ i) ∧ p ≠ [] ∧ p.length ≤ 5 ∧ inDom p = true := by
  cases p with
  | nil => cases h
  | cons a r =>
    simp only [okp, Bool.and_eq_true, decide_eq_true_eq, List.all_eq_true] at h
    obtain ⟨⟨⟨h1, h2⟩, h3⟩, h4⟩ := h
    refine ⟨fun i hi => ?_, by simp, by simp; omega, ?_⟩
    · rcases List.mem_cons.mp hi with rfl | hi
      · exact h1
      · exact (h3 i hi).1
    · simp only [inDom, Bool.and_eq_true, decide_eq_true_eq, List.all_eq_true]
      exact ⟨⟨⟨h1, by omega⟩, fun i hi => ⟨(h3 i hi).1, by have := (h3 i hi).2; omega⟩⟩, by omega⟩
theorem pOk_of {p : List Int} (h0 : ∀ i ∈ p, 0 ≤ i) (hl : p.length ≤ 60) (hd : p = [] ∨ inDom p = true) : pOk (pD p) = true := by
  unfold pD
  simp only [pOk, cts_of h0, Bool.and_eq_true, decide_eq_true_eq, List.length_map]
  refine ⟨⟨fits_p p 63, hl⟩, ?_⟩
  cases p with
  | nil => rfl
  | cons a r => rcases hd with h | h; cases h; exact h
theorem pOk_p {p : List Int} (h : okp p = true) : pOk (pD p) = true := by
  obtain ⟨h1, h2, h3, h4⟩ := okp_ints h
  exact pOk_of h1 (by omega) (.inr h4)
theorem pOk_s {s : D} (h : oks s = true) : pOk s = true ∧ sOk s = true := by
  rcases oks_inv h with ⟨i, rfl⟩ | ⟨k, m, rfl, _⟩
  · exact ⟨rfl, rfl⟩
  · refine ⟨?_, by simp only [sOk, nmI_nm, Option.isSome_some]⟩
    have : cts [.str (nm k), .int m] = none := by simp only [cts]
    simp only [pOk, this, Bool.and_true, Bool.and_eq_true, decide_eq_true_eq]
    exact ⟨fits_s h 63, by simp⟩
theorem sOk_p {p : List Int} (hl : p.length ≤ 60) : sOk (pD p) = true := by
  unfold pD
  unfold sOk
  split
  · rename_i e; cases p with
    | nil => cases e
    | cons a r => cases r <;> cases e
  · rename_i e; cases e; simpa using hl
  · rfl
theorem wOk_wd (k : Fin 5) : wOk (.str (wd k)) = true := by revert k; decide +kernel
theorem gv_leaf {ps : List Int} (hl : ps.length ≤ 200) : gv (.tup [.str "nearest", pD ps]) = true := by
  have h1 : fits 64 (.tup [.str "nearest", pD ps]) = true := by
    have fw : fits 63 (.str "nearest") = true := fits_wd 0 _
    simp only [show (64 : Nat) = 63 + 1 from rfl, ftT, faC, faN, show fits 63 (pD ps) = true from fits_p ps 62, fw, Bool.and_self]
  have h2 : wOk (.str "nearest") = true := wOk_wd 0
  have h3 : lOk (pD ps) = true := by simp only [lOk, pD, List.length_map, decide_eq_true_eq]; exact hl
  simp only [gv, h1, h2, h3, Bool.and_self]
theorem gv_tr : ∀ t : Tr, okT t = true → dpt t ≤ 40 → gv t.d = true
  | .lf ps, h, _ => by
    simp only [okT, okl, Bool.and_eq_true, decide_eq_true_eq] at h
    exact gv_leaf (by omega)
  | .is p s a b, h, hd => by
    have ft := fits_tr (.is p s a b) 64 h (by omega)
    simp only [okT, Bool.and_eq_true] at h
    simp only [dpt] at hd
    obtain ⟨h1, h2, h3, h4⟩ := h
    have ga := gv_tr a h3 (by omega)
    have gb := gv_tr b h4 (by omega)
    have hw : wOk (.str "is") = true := wOk_wd 1
    obtain ⟨s1, s2⟩ := pOk_s h2
    simp only [Tr.d] at ft
    simp only [Tr.d, gv, ft, hw, pOk_p h1, s1, s2, ga, gb, Bool.and_self]
  | .same p q a b, h, hd => by
    have ft := fits_tr (.same p q a b) 64 h (by omega)
    simp only [okT, Bool.and_eq_true] at h
    simp only [dpt] at hd
    obtain ⟨h1, h2, h3, h4⟩ := h
    have ga := gv_tr a h3 (by omega)
    have gb := gv_tr b h4 (by omega)
    have hw : wOk (.str "same") = true := wOk_wd 2
    have l := (okp_ints h2).2.2.1
    simp only [Tr.d] at ft
    simp only [Tr.d, gv, ft, hw, pOk_p h1, pOk_p h2, sOk_p (show q.length ≤ 60 by omega), ga, gb, Bool.and_self]
/-! right ones -/
theorem path_p {B : Kn} {p : List Int} (h0 : ∀ i ∈ p, 0 ≤ i) (hn : p ≠ []) : path B (pD p) = decide (p.getLast hn < B p.dropLast) := path_eq (cts_of h0) hn
theorem lf_lf {B : Kn} {ps : List Int} (h : okl ps = true) : isTr B (Tr.lf ps).d = true := by
  simp only [okl, Bool.and_eq_true, decide_eq_true_eq, List.all_eq_true] at h
  obtain ⟨_, h1, h2⟩ := h
  refine tr_leaf ?_
  have w0 : isW "nearest" 0 = true := by decide +kernel
  have c := cts_of (is := ps) fun i hi => (h1 i hi).1
  simp only [Tr.d, pD, isLf, w0, lfP, c, h2, Bool.true_and, Bool.and_true, List.all_eq_true, decide_eq_true_eq]
  exact fun i hi => (h1 i hi).2
theorem is_is {B : Kn} {p : List Int} {s : D} {a b : Tr} (h : path B (pD p) = true) (hs : isSh s = true) (ha : isTr (upS B (pD p) s) a.d = true) (hb : isTr B b.d = true) : isTr B (Tr.is p s a b).d = true := by
  have w1 : isW "is" 1 = true := by decide +kernel
  simp only [Tr.d, isTr_5, w1, if_true, h, hs, ha, hb, Bool.and_self]
theorem same_same {B : Kn} {p q : List Int} {a b : Tr} (h : path B (pD p) = true) (hs : path B (pD q) = true) (ha : isTr B a.d = true) (hb : isTr B b.d = true) : isTr B (Tr.same p q a b).d = true := by
  have w1 : isW "same" 1 = false := by decide +kernel
  have w2 : isW "same" 2 = true := by decide +kernel
  simp only [Tr.d, isTr_5, w1, w2, if_true, Bool.false_eq_true, if_false, h, hs, ha, hb, Bool.and_self]
theorem pthI_p {p : List Int} (h0 : ∀ i ∈ p, 0 ≤ i) : pthI (pD p) = p := by
  simp only [pthI, pD, cts_of h0, Option.getD_some]
end K51
set_option maxHeartbeats 0
/-! k51: trees drawn. -/
namespace K51
open VM Law
open L2 (atI ixN)
def cL (l : List D) : Cell := ⟨true, .lst l⟩
theorem for_invS {α : Type} {enc : α → D} {Q : List α} {S : Src} {F : Fns} {p : SG} {b : SS} (Inv : List α → Env → Sto → Prop) (hS : ∀ ts ρ X, Inv ts ρ X → S.at X = some (Q.map enc))
    (h : ∀ q Q' ρ X, q ∈ Q → Inv (q :: Q') ρ X → ∃ ρ1 X1, p (enc q) F ρ X = .ok ρ1 X1 ∧ ∃ ρ2 X2, b F ρ1 X1 = .ok (.nx ρ2) X2 ∧ Inv Q' ρ2 X2) :
    ∀ (m i : Nat) (ρ : Env) (X : Sto), Inv (Q.drop i) ρ X → i ≤ Q.length → Q.length < i + m →
      ∃ ρ' X', forL F S p b m i ρ X = .ok (.nx ρ') X' ∧ Inv [] ρ' X'
  | 0, i, ρ, X, _, h1, h2 => by omega
  | m + 1, i, ρ, X, hI, h1, h2 => by
    unfold forL
    rw [hS _ _ _ hI]
    simp only [List.getElem?_map]
    cases e : Q[i]? with
    | none =>
      have : Q.length ≤ i := List.getElem?_eq_none_iff.mp e
      rw [List.drop_eq_nil_of_le this] at hI
      exact ⟨ρ, X, rfl, hI⟩
    | some q =>
      obtain ⟨hi, eq⟩ := List.getElem?_eq_some_iff.mp e
      have hdr : Q.drop i = q :: Q.drop (i + 1) := by rw [← eq]; exact (List.drop_eq_getElem_cons hi)
      rw [hdr] at hI
      obtain ⟨ρ1, X1, e1, ρ2, X2, e2, hI2⟩ := h q _ ρ X (List.mem_of_getElem? e) hI
      have ih := for_invS Inv hS h m (i + 1) ρ2 X2 hI2 (by omega) (by omega)
      simp only [Option.map_some, e1, Res.bind_ok, e2]
      exact ih
section
variable {n k : Nat} {X : Sto}
theorem s_pickC {j : Nat} {xs : List D} (hp : PotAt X k) (hj : X[j]? = some (cL xs)) (hjk : j ≠ k) (h0 : 0 < xs.length) (h1 : xs.length < 1000) : ∃ (x : D) (Y : Sto), x ∈ xs ∧ Nxt X Y k ∧ VM.run T (n + 2) 24 [.cel k, .cel j] X = .ok (.dat x) Y := by
  obtain ⟨d, Y, hd, nx, e⟩ := s_draw (n := n) hp (xs.length : Nat) (by omega) (by omega)
  have hd' : d < xs.length := by omega
  refine ⟨xs[d], Y, List.getElem_mem hd', nx, ?_⟩
  rw [run_at (nl := 2) (b := P__law_pick) (by rfl)]
  unfold P__law_pick
  have bl : bLen [.lst xs] = some (.dat (.int xs.length)) := rfl
  have ix : opIx (.lst xs) (.int (d : Nat)) = some (.dat xs[d]) := by
    show (atI xs (d : Nat)).map EV.dat = _
    unfold L2.atI L2.ixN
    rw [if_pos (by omega), if_pos (by omega)]
    simp [List.getElem?_eq_getElem hd']
  have tk : Y.take X.length = Y := List.take_of_length_le (by rw [nx.len]; exact Nat.le_refl _)
  have s1 : (EV.cel j).see X = some (.lst xs) := by simp only [EV.see]; rw [hj]; rfl
  have s2 : (EV.cel j).see Y = some (.lst xs) := by
    obtain ⟨a, b, rfl⟩ := nx
    simp only [EV.see]
    rw [List.getElem?_set_ne (Ne.symm hjk), hj]; rfl
  generalize xs[d] = xd at *
  simp [startE, s1, bl, e, s2, ix, VM.callEnd, EV.out, tk]
end
/-! the paths that are known -/
def rowP (q : List Int × Int) : List (List Int) := (List.range q.2.toNat).map fun i : Nat => q.1 ++ [(i : Int)]
def pathsL (L : KL) : List (List Int) := L.flatMap rowP
theorem rngD (m : Int) (h0 : 0 ≤ m) (h : m ≤ 1000) : rangeOf [.dat (.int m)] = some (.vals ((List.range m.toNat).map fun i : Nat => .int (i : Int))) := by
  have hc : -1000000 ≤ m ∧ m ≤ 1000000 := by omega
  refine (if_pos hc).trans ?_
  simp
theorem addT (a b : List Int) (h : a.length + b.length ≤ 5000) : opBin .Add (pD a) (pD b) = some (.dat (pD (a ++ b))) := by
  unfold pD
  have : (a.map D.int).length + (b.map D.int).length ≤ LIM := lim1 (by simpa using h)
  rw [List.map_append]
  exact if_pos this
section
variable {n : Nat} {μ : Sto}
theorem l_paths {L : KL} {sv : SV} (hs : Sq sv (L.map encL) μ) (hL : L.length ≤ 20) (hm : ∀ q ∈ L, 0 ≤ q.2 ∧ q.2 ≤ 8 ∧ q.1.length ≤ 50) : VM.run T (n + 1) 31 [sv] μ = .ok (.new (.lst ((pathsL L).map pD))) μ := by
  rw [run_at (nl := 5) (b := P__law_paths) (by rfl)]
  unfold P__law_paths
  obtain ⟨S, s1, s2, s3⟩ := (hs.app [cL []]).src
  have sat : ∀ l, S.at (μ ++ [cL l]) = some (L.map encL) := by
    intro l
    rcases hs with rfl | ⟨j, rfl, hj⟩
    · cases s1; rfl
    · have hjl : j < μ.length := (List.getElem?_eq_some_iff.mp hj).1
      have : S = .cell j := by
        have e : (μ ++ [cL []])[j]? = some ⟨true, .lst (L.map encL)⟩ := by rw [List.getElem?_append_left hjl, hj]
        simp only [srcOf, ev_cel, e] at s1
        cases s1; rfl
      subst this
      simp only [Src.at]
      rw [List.getElem?_append_left hjl, hj]
  have lp := for_invS (enc := encL) (Q := L) (S := S) (F := VM.run T n) (p := gTp [gNm 2, gNm 3]) (b := (sDrop (eCM aExtend (eV 1) (evs [eLc (iRange (evs [eV 3])) (.nm 4) (bYes) (eBin .Add (eV 2) (eTup (evs [eV 4]))) [4]])))) (fun Q' ρ Y => ∃ Q0 o2 o3, L = Q0 ++ Q' ∧ ρ = [some sv, some (.cel μ.length), o2, o3, none] ∧ Y = μ ++ [cL ((pathsL Q0).map pD)]) (by
    rintro ts ρ Y ⟨Q0, _, _, _, _, rfl⟩
    exact sat _) (by
    rintro q Q' ρ Y hq ⟨Q0, o2, o3, eL, rfl, rfl⟩
    obtain ⟨h0, h8, h5⟩ := hm q hq
    refine ⟨[some sv, some (.cel μ.length), some (.dat (pD q.1)), some (.dat (.int q.2)), none], μ ++ [cL ((pathsL Q0).map pD)], by simp [encL, pD], [some sv, some (.cel μ.length), some (.dat (pD q.1)), some (.dat (.int q.2)), none], μ ++ [cL ((pathsL (Q0 ++ [q])).map pD)], ?_, Q0 ++ [q], _, _, by rw [eL]; simp, rfl, rfl⟩
    have rg := rngD q.2 h0 (by omega)
    have lc := lc_mapE (enc := fun i : Nat => D.int (i : Int)) (f := fun i => pD (q.1 ++ [(i : Int)])) (μ := μ ++ [cL ((pathsL Q0).map pD)]) (step := lcStep (VM.run T n) (.nm 4) bYes (eBin .Add (eV 2) (eTup (evs [eV 4]))) [some sv, some (.cel μ.length), some (.dat (pD q.1)), some (.dat (.int q.2)), none]) (List.range q.2.toNat) (by
      intro i _
      have := addT q.1 [(i : Int)] (by simp; omega)
      have e1 : pD [(i : Int)] = .tup [.int (i : Int)] := rfl
      rw [e1] at this
      simp [asg, this]) (lim1 (by rw [List.length_range]; omega))
    have e2 : (List.range q.2.toNat).map (fun i : Nat => pD (q.1 ++ [(i : Int)])) = (rowP q).map pD := by
      unfold rowP; rw [List.map_map]; rfl
    rw [e2] at lc
    have e3 : (pathsL (Q0 ++ [q])).map pD = (pathsL Q0).map pD ++ (rowP q).map pD := by
      unfold pathsL
      rw [List.flatMap_append, List.map_append]; simp
    have l1 : (pathsL Q0).length ≤ 8 * Q0.length := by
      have : ∀ Q1 : KL, (∀ x ∈ Q1, x.2 ≤ 8) → (pathsL Q1).length ≤ 8 * Q1.length := by
        intro Q1
        induction Q1 with
        | nil => intro _; simp [pathsL]
        | cons x Q1 ih =>
          intro hx
          have := ih fun y hy => hx y (List.mem_cons_of_mem _ hy)
          have hx8 := hx x List.mem_cons_self
          unfold pathsL at this ⊢
          rw [List.flatMap_cons, List.length_append]
          have : (rowP x).length ≤ 8 := by unfold rowP; rw [List.length_map, List.length_range]; omega
          rw [List.length_cons]; omega
      exact this Q0 fun x hx => (hm x (by rw [eL]; exact List.mem_append_left _ hx)).2.1
    have l2 : (rowP q).length ≤ 8 := by unfold rowP; rw [List.length_map, List.length_range]; omega
    have l3 : Q0.length ≤ 20 := by rw [eL] at hL; simp at hL; omega
    have ex := aExtend_c (l := (pathsL Q0).map pD) (e := (rowP q).map pD) (lim1 (by simp; omega))
    have lm : ((rowP q).map pD).length ≤ LIM := lim1 (by simp; omega)
    rw [e3]
    have rl : ((List.range q.2.toNat).map fun i : Nat => D.int (i : Int)).length + 1 = (List.range q.2.toNat).length + 1 := by simp
    rw [← rl] at lc
    generalize (pathsL Q0).map pD = A at *
    generalize (rowP q).map pD = B at *
    generalize pD q.1 = pq at *
    generalize ((List.range q.2.toNat).map fun i : Nat => D.int (i : Int)) = RL at *
    simp only [cL] at *
    simp [rg, wipeE, lc, lm, ex]) (L.length + 1) 0 [some sv, some (.cel μ.length), none, none, none] (μ ++ [cL []]) ⟨[], none, none, rfl, rfl, rfl⟩ (Nat.zero_le _) (by omega)
  obtain ⟨ρ', Y, e, Q0, o2, o3, eL, rfl, rfl⟩ := lp
  rw [List.append_nil] at eL
  subst eL
  rw [List.length_map] at s3
  simp only [cL] at *
  simp [startE, s1, s3, e, callEnd, EV.out]
end
end K51
set_option maxHeartbeats 0
/-! k51: trees drawn. -/
namespace K51
open VM Law
open L2 (atI ixN)
theorem addTup (a b : List D) (h : a.length + b.length ≤ 5000) : opBin .Add (.tup a) (.tup b) = some (.dat (.tup (a ++ b))) := if_pos (lim1 h)
structure KO (j : Nat) (L : KL) : Prop where
  len : L.length ≤ j + 1
  row : ∀ q ∈ L, 0 ≤ q.2 ∧ ((q.1 = [] ∧ q.2 ≤ 8) ∨ (okp q.1 = true ∧ q.1.length ≤ j ∧ q.2 ≤ 2))
theorem KO.first {many : Int} (h0 : 0 ≤ many) (h8 : many ≤ 8) : KO 0 [([], many)] := ⟨by simp, fun q hq => by
  rw [List.mem_singleton.mp hq]; exact ⟨h0, .inl ⟨rfl, h8⟩⟩⟩
theorem KO.mono {j : Nat} {L : KL} (h : KO j L) : KO (j + 1) L := ⟨by have := h.len; omega, fun q hq => by
  obtain ⟨h0, h1⟩ := h.row q hq
  refine ⟨h0, h1.imp id fun ⟨a, b, c⟩ => ⟨a, by omega, c⟩⟩⟩
theorem KO.path {j : Nat} {L : KL} (h : KO j L) (hj : j ≤ 4) {p : List Int} (hp : p ∈ pathsL L) : okp p = true ∧ p.length ≤ j + 1 ∧ path (bL L) (pD p) = true := by
  obtain ⟨q, hq, hp⟩ := List.mem_flatMap.mp hp
  obtain ⟨i, hi, rfl⟩ := List.mem_map.mp hp
  have hi := List.mem_range.mp hi
  obtain ⟨h0, h1⟩ := h.row q hq
  have hin : (i : Int) < q.2 := by omega
  have ok : okp (q.1 ++ [(i : Int)]) = true ∧ (q.1 ++ [(i : Int)]).length ≤ j + 1 := by
    rcases h1 with ⟨e, h8⟩ | ⟨e, hl, h2⟩
    · rw [e]
      refine ⟨?_, by simp⟩
      simp only [List.nil_append, okp, List.all_nil, List.length_nil, Bool.and_true, Bool.and_eq_true, decide_eq_true_eq]
      omega
    · refine ⟨?_, by rw [List.length_append]; simp; exact hl⟩
      cases hq1 : q.1 with
      | nil => rw [hq1] at e; cases e
      | cons a r =>
        rw [hq1] at e hl
        simp only [okp, Bool.and_eq_true, decide_eq_true_eq, List.all_eq_true] at e
        simp only [List.cons_append, okp, Bool.and_eq_true, decide_eq_true_eq, List.all_eq_true, List.length_append, List.length_singleton]
        simp only [List.length_cons] at hl
        refine ⟨⟨e.1.1, fun x hx => ?_⟩, by omega⟩
        rcases List.mem_append.mp hx with hx | hx
        · exact e.1.2 x hx
        · rw [List.mem_singleton.mp hx]; omega
  refine ⟨ok.1, ok.2, ?_⟩
  obtain ⟨z, hn, _, _⟩ := okp_ints ok.1
  rw [path_p z hn]
  have e1 : (q.1 ++ [(i : Int)]).getLast hn = (i : Int) := by simp
  have e2 : (q.1 ++ [(i : Int)]).dropLast = q.1 := by simp
  rw [e1, e2, ← bL_any q.1 (by omega) L, List.any_eq_true]
  exact ⟨q, hq, by simp; omega⟩
theorem KO.row' {j : Nat} {L : KL} (h : KO j L) (hj : j ≤ 5) : ∀ q ∈ L, 0 ≤ q.2 ∧ q.2 ≤ 8 ∧ q.1.length ≤ 50 := fun q hq => by
  obtain ⟨h0, h1⟩ := h.row q hq
  rcases h1 with ⟨e, h8⟩ | ⟨e, hl, h2⟩
  · rw [e]; exact ⟨h0, h8, by simp⟩
  · exact ⟨h0, by omega, by omega⟩
theorem KO.snoc {j : Nat} {L : KL} (h : KO j L) {p : List Int} {m : Int} (hp : okp p = true) (hl : p.length ≤ j + 1) (h0 : 0 ≤ m) (h2 : m ≤ 2) : KO (j + 1) (L ++ [(p, m)]) := ⟨by have := h.len; simp; omega, fun q hq => by
  rcases List.mem_append.mp hq with hq | hq
  · exact h.mono.row q hq
  · rw [List.mem_singleton.mp hq]; exact ⟨h0, .inr ⟨hp, hl, h2⟩⟩⟩
theorem eq_nil (l : List D) : opCmp .Eq (.lst l) (.lst []) = some l.isEmpty := by
  have := ne_nil l
  simp only [opCmp] at this ⊢
  cases e : opEq (.lst l) (.lst []) with
  | none => rw [e] at this; cases this
  | some b => rw [e] at this; cases l <;> cases b <;> simp at this ⊢
def lits : List D := [.tup [], .tup [.int 0], .tup [.int 1], .tup [.int 0, .int 2], .tup [.int 3, .int 39]]
theorem lits_ok : ∀ x ∈ lits, ∃ ps, x = pD ps ∧ okl ps = true := by
  have e : lits = [[], [0], [1], [0, 2], [3, 39]].map pD := rfl
  intro x hx
  rw [e] at hx
  obtain ⟨ps, hp, rfl⟩ := List.mem_map.mp hx
  refine ⟨ps, rfl, ?_⟩
  simp only [List.mem_cons, List.not_mem_nil, or_false] at hp
  rcases hp with rfl | rfl | rfl | rfl | rfl <;> decide
def shps : List D := [.int 0, .int (-999), .int 7, .tup [.str "a", .int 0], .tup [.str "g", .int 1], .tup [.str "p", .int 2], .tup [.str "p", .int 2]]
theorem oks_nm (k : Fin 6) (hk : nmP k = true) (m : Int) (h0 : 0 ≤ m) (h8 : m ≤ 8) : oks (.tup [.str (nm k), .int m]) = true := by
  simp [oks, isSh, nmI_nm, hk, h0, h8]
theorem oks_int (i : Int) (h0 : -999 ≤ i) (h8 : i ≤ 999) : oks (.int i) = true := by
  simp [oks, isSh, h0, h8]
theorem shps_ok : ∀ x ∈ shps, oks x = true ∧ ((∃ i, x = .int i) ∨ ∃ n m, x = .tup [.str n, .int m] ∧ 0 ≤ m ∧ m ≤ 2) := by
  intro x hx
  simp only [shps, List.mem_cons, List.not_mem_nil, or_false] at hx
  rcases hx with rfl | rfl | rfl | rfl | rfl | rfl | rfl
  · exact ⟨oks_int _ (by decide) (by decide), .inl ⟨_, rfl⟩⟩
  · exact ⟨oks_int _ (by decide) (by decide), .inl ⟨_, rfl⟩⟩
  · exact ⟨oks_int _ (by decide) (by decide), .inl ⟨_, rfl⟩⟩
  · exact ⟨oks_nm 0 rfl 0 (by decide) (by decide), .inr ⟨_, _, rfl, by decide, by decide⟩⟩
  · exact ⟨oks_nm 1 rfl 1 (by decide) (by decide), .inr ⟨_, _, rfl, by decide, by decide⟩⟩
  · exact ⟨oks_nm 2 rfl 2 (by decide) (by decide), .inr ⟨_, _, rfl, by decide, by decide⟩⟩
  · exact ⟨oks_nm 2 rfl 2 (by decide) (by decide), .inr ⟨_, _, rfl, by decide, by decide⟩⟩
section
variable {n k : Nat} {X : Sto}
theorem ng999 : (eNeg (eC (.int 999)) : SE) = fun F ρ X => .ok (.dat (.int (-999))) X := by rfl
theorem lm7 : (7 ≤ LIM) = True := eq_true (by decide)
/-- a leaf -/
theorem dr_leaf {m : Nat} {Y : Sto} {ρ : Env} (hp : PotAt Y k) (h0 : ρ[0]? = some (some (.cel k))) : ∃ ps Y', okl ps = true ∧ Nxt Y Y' k ∧ ((sRet (eTup (evs [eC (.str "nearest"), eCall 24 (evs [eV 0, eLst (evs [eTup (evs []), eTup (evs [eC (.int 0)]), eTup (evs [eC (.int 1)]), eTup (evs [eC (.int 0), eC (.int 2)]), eTup (evs [eC (.int 3), eC (.int 39)])])])]))) : SS) (VM.run T (m + 2)) ρ Y = .ok (.rt (.dat (Tr.lf ps).d)) Y' := by
  obtain ⟨x, Y', hx, nx, e⟩ := s_pick (n := m) hp lits (by decide) (by decide)
  obtain ⟨ps, rfl, ok⟩ := lits_ok x hx
  refine ⟨ps, Y', ok, nx, ?_⟩
  simp only [lits] at e
  simp [h0, e, Tr.d]
theorem Sq.nxt {sv : SV} {L : List D} {Y : Sto} (h : Sq sv L X) (nk : sv ≠ .cel k) (nx : Nxt X Y k) : Sq sv L Y := by
  rcases h with rfl | ⟨j, rfl, hj⟩
  · exact .inl rfl
  · refine .inr ⟨j, rfl, ?_⟩
    obtain ⟨a, b, rfl⟩ := nx
    rw [List.getElem?_set_ne (fun e => nk (by rw [e]))]; exact hj
theorem Sq.bnd {sv : SV} {L : List D} (h : Sq sv L X) : ∀ Z, sv.ev.bnd Z = (sv, Z) := fun Z => by
  rcases h with rfl | ⟨j, rfl, _⟩ <;> rfl
/-- both branches, and the end -/
theorem dr_end {m : Nat} {Z : Sto} {w p s : D} {t1 t2 : Tr} {dI dm : Int} {sv sv5 : SV} {o3 o4 o7 : Option SV} {Z1 Z2 : Sto} (hd : dI - 1 = dm)
    (a1 : sv5.ev.arg = sv5) (a2 : sv.ev.arg = sv) (e1 : VM.run T m 32 [.cel k, .dat (.int dm), sv5] Z = .ok (.dat t1.d) Z1) (e2 : VM.run T m 32 [.cel k, .dat (.int dm), sv] Z1 = .ok (.dat t2.d) Z2) :
    ((sRet (eBin .Add (eV 6) (eTup (evs [eCall 32 (evs [eV 0, eBin .Sub (eV 1) (eC (.int 1)), eV 5]), eCall 32 (evs [eV 0, eBin .Sub (eV 1) (eC (.int 1)), eV 2])])))) : SS) (VM.run T m) [some (.cel k), some (.dat (.int dI)), some sv, o3, o4, some sv5, some (.dat (.tup [w, p, s])), o7] Z = .ok (.rt (.dat (.tup [w, p, s, t1.d, t2.d]))) Z2 := by
  have sb : opBin .Sub (.int dI) (.int 1) = some (.dat (.int dm)) := by
    show some (EV.dat (.int (dI - 1))) = _
    rw [hd]
  have ad : opBin .Add (.tup [w, p, s]) (.tup [t1.d, t2.d]) = some (.dat (.tup [w, p, s, t1.d, t2.d])) := addTup [w, p, s] [t1.d, t2.d] (by simp)
  generalize t1.d = d1 at *
  generalize t2.d = d2 at *
  simp [a1, a2, sb, e1, e2, ad]
end
end K51
set_option maxHeartbeats 0
/-! k51: trees drawn, within one another. -/
namespace K51
open VM Law
open L2 (atI ixN)
theorem lt_app {a : Nat} {Y : Sto} {c : Cell} (h : a < Y.length) : a < (Y ++ [c]).length := by rw [List.length_append]; omega
theorem l_dtree {n k : Nat} : ∀ (dp : Nat) (X : Sto) (L : KL) (sv : SV) (j : Nat), j + dp ≤ 5 → KO j L → Sq sv (L.map encL) X → sv ≠ .cel k → PotAt X k →
    ∃ (t : Tr) (Y : Sto), VM.run T (n + 4 + dp) 32 [.cel k, .dat (.int (dp : Nat)), sv] X = .ok (.dat t.d) Y ∧ Nxt X Y k ∧ okT t = true ∧ dpt t ≤ dp + 1 ∧ cnt t < 2 ^ (dp + 1) ∧ isTr (bL L) t.d = true := by
  intro dp
  induction dp with
  | zero =>
    intro X L sv j hj ko hs nk hp
    rw [show n + 4 + 0 = (n + 3) + 1 from rfl, run_at (nl := 8) (b := P__law_tree) (by rfl)]
    unfold P__law_tree
    have e31 := l_paths (n := n + 2) hs (by have := ko.len; omega) (ko.row' (by omega))
    simp only [show n + 2 + 1 = n + 3 from rfl] at e31
    obtain ⟨ps, Y', ok, nx, e⟩ := dr_leaf (k := k) (m := n + 1) (Y := X ++ [cL ((pathsL L).map pD)]) (ρ := [some (.cel k), some (.dat (.int ((0 : Nat) : Int))), some sv, some (.cel X.length), none, none, none, none]) hp.app rfl
    simp only [show n + 1 + 2 = n + 3 from rfl] at e
    obtain ⟨Y1, rfl, nx1⟩ := nx.app hp.lt
    refine ⟨.lf ps, Y1, ?_, nx1, ok, Nat.le_refl _, (by show 1 < 2 ^ 1; decide), lf_lf ok⟩
    have q : opCmp .Eq (.int 0) (.int 0) = some true := by rfl
    have sa := hs.arg
    have tk : List.take X.length Y1 = Y1 := List.take_of_length_le (by rw [nx1.len]; exact Nat.le_refl _)
    simp only [cL] at *
    generalize (pathsL L).map pD = P at *
    generalize (Tr.lf ps).d = tt at *
    generalize hE : ((sRet (eTup (evs [eC (.str "nearest"), eCall 24 (evs [eV 0, eLst (evs [eTup (evs []), eTup (evs [eC (.int 0)]), eTup (evs [eC (.int 1)]), eTup (evs [eC (.int 0), eC (.int 2)]), eTup (evs [eC (.int 3), eC (.int 39)])])])]))) : SS) = EE at *
    simp at e
    have tk2 : List.take X.length (Y1 ++ [⟨true, .lst P⟩]) = Y1 := by rw [List.take_append_of_le_length (by rw [nx1.len]; exact Nat.le_refl _), tk]
    simp [startE, sa, e31, q, e, callEnd, EV.out, tk2]
  | succ dp ih =>
    intro X L sv j hj ko hs nk hp
    rw [show n + 4 + (dp + 1) = (n + 4 + dp) + 1 by omega, run_at (nl := 8) (b := P__law_tree) (by rfl)]
    unfold P__law_tree
    obtain ⟨dI, hdI⟩ : ∃ dI, ((dp + 1 : Nat) : Int) = dI := ⟨_, rfl⟩
    rw [hdI]
    obtain ⟨P, hP⟩ : ∃ P, P = (pathsL L).map pD := ⟨_, rfl⟩
    have e31 := l_paths (n := n + 3 + dp) hs (by have := ko.len; omega) (ko.row' (by omega))
    rw [show n + 3 + dp + 1 = n + 4 + dp by omega, ← hP] at e31
    have sa := hs.arg
    have q0 : opCmp .Eq (.int dI) (.int 0) = some false := by
      simp only [opCmp, opEq_int]
      congr 1
      rw [beq_eq_false_iff_ne]; omega
    have qP := eq_nil P
    have hp1 : PotAt (X ++ [cL P]) k := hp.app
    have vP : ∀ Y : Sto, Y.length = X.length → (EV.cel X.length).see (Y ++ [cL P]) = some (.lst P) := fun Y hY => by simp [EV.see, cL, ← hY]
    -- a leaf, where it is told
    have leaf : ∀ (Y : Sto), Nxt X Y k → ∃ (ps : List Int) (Y2 : Sto), okl ps = true ∧ Nxt X Y2 k ∧ ((sRet (eTup (evs [eC (.str "nearest"), eCall 24 (evs [eV 0, eLst (evs [eTup (evs []), eTup (evs [eC (.int 0)]), eTup (evs [eC (.int 1)]), eTup (evs [eC (.int 0), eC (.int 2)]), eTup (evs [eC (.int 3), eC (.int 39)])])])]))) : SS) (VM.run T (n + 4 + dp)) [some (.cel k), some (.dat (.int dI)), some sv, some (.cel X.length), none, none, none, none] (Y ++ [cL P]) = .ok (.rt (.dat (Tr.lf ps).d)) (Y2 ++ [cL P]) := fun Y nx => by
      have hpY := nx.pot hp.lt
      obtain ⟨ps, Y', ok, nx', e⟩ := dr_leaf (k := k) (m := n + 2 + dp) (Y := Y ++ [cL P]) (ρ := [some (.cel k), some (.dat (.int dI)), some sv, some (.cel X.length), none, none, none, none]) hpY.app rfl
      rw [show n + 2 + dp + 2 = n + 4 + dp by omega] at e
      obtain ⟨Y1, rfl, nx1⟩ := nx'.app hpY.lt
      exact ⟨ps, Y1, ok, nx.trans nx1, e⟩
    have tke : ∀ (Y2 : Sto) (E : Sto), Nxt X Y2 k → List.take X.length (Y2 ++ E) = Y2 := fun Y2 E nx => by
      rw [List.take_append_of_le_length (by rw [nx.len]; exact Nat.le_refl _)]
      exact List.take_of_length_le (by rw [nx.len]; exact Nat.le_refl _)
    by_cases hPe : P.isEmpty = true
    · rw [hPe] at qP
      obtain ⟨ps, Y2, ok, nx2, e⟩ := leaf X (.refl hp)
      refine ⟨.lf ps, Y2, ?_, nx2, ok, by simp only [dpt]; omega, ?_, lf_lf ok⟩
      · have tk := tke Y2 [cL P] nx2
        have vX := vP X rfl
        simp only [cL] at *
        generalize (Tr.lf ps).d = tt at *
        generalize hE : ((sRet (eTup (evs [eC (.str "nearest"), eCall 24 (evs [eV 0, eLst (evs [eTup (evs []), eTup (evs [eC (.int 0)]), eTup (evs [eC (.int 1)]), eTup (evs [eC (.int 0), eC (.int 2)]), eTup (evs [eC (.int 3), eC (.int 39)])])])]))) : SS) = EE at *
        simp [startE, sa, e31, q0, vX, qP, e, callEnd, EV.out, tk]
      · simp only [cnt]
        have : 2 ^ 1 ≤ 2 ^ (dp + 1 + 1) := Nat.pow_le_pow_right (by decide) (by omega)
        omega
    have hPe : P.isEmpty = false := by simpa using hPe
    rw [hPe] at qP
    obtain ⟨d5, Yd, hd5, nxd, ed5⟩ := s_draw (n := n + 3 + dp) hp1 5 (by decide) (by decide)
    rw [show n + 3 + dp + 1 = n + 4 + dp by omega] at ed5
    obtain ⟨Yd, rfl, nxd2⟩ := nxd.app hp.lt
    have q5 : opCmp .Eq (.int (d5 : Nat)) (.int 0) = some (decide (d5 = 0)) := by
      simp only [opCmp, opEq_int]
      congr 1
      rw [Bool.eq_iff_iff]; simp
    by_cases h5 : d5 = 0
    · obtain ⟨ps, Y2, ok, nx2, e⟩ := leaf Yd nxd2
      refine ⟨.lf ps, Y2, ?_, nx2, ok, by simp only [dpt]; omega, ?_, lf_lf ok⟩
      · have tk := tke Y2 [cL P] nx2
        have vX := vP X rfl
        subst h5
        simp only [cL] at *
        generalize (Tr.lf ps).d = tt at *
        generalize hE : ((sRet (eTup (evs [eC (.str "nearest"), eCall 24 (evs [eV 0, eLst (evs [eTup (evs []), eTup (evs [eC (.int 0)]), eTup (evs [eC (.int 1)]), eTup (evs [eC (.int 0), eC (.int 2)]), eTup (evs [eC (.int 3), eC (.int 39)])])])]))) : SS) = EE at *
        simp at q5 ed5
        simp [startE, sa, e31, q0, vX, qP, ed5, q5, e, callEnd, EV.out, tk]
      · simp only [cnt]
        have : 2 ^ 1 ≤ 2 ^ (dp + 1 + 1) := Nat.pow_le_pow_right (by decide) (by omega)
        omega
    have q5 : opCmp .Eq (.int (d5 : Nat)) (.int 0) = some false := by rw [q5]; simp [h5]
    -- the path
    have hp2 := nxd2.pot hp.lt
    have ld := nxd2.len
    have PL : P.length < 1000 := by
      have l20 := ko.len
      have : ∀ Q1 : KL, (∀ x ∈ Q1, x.2 ≤ 8) → (pathsL Q1).length ≤ 8 * Q1.length := by
        intro Q1
        induction Q1 with
        | nil => intro _; simp [pathsL]
        | cons x Q1 ih =>
          intro hx
          have := ih fun y hy => hx y (List.mem_cons_of_mem _ hy)
          have hx8 := hx x List.mem_cons_self
          unfold pathsL at this ⊢
          rw [List.flatMap_cons, List.length_append]
          have : (rowP x).length ≤ 8 := by unfold rowP; rw [List.length_map, List.length_range]; omega
          rw [List.length_cons]; omega
      have := this L fun x hx => (ko.row' (by omega) x hx).2.1
      rw [hP, List.length_map]; omega
    have Pne : 0 < P.length := by cases P with
      | nil => cases hPe
      | cons _ _ => simp
    have mem : ∀ x ∈ P, ∃ p, x = pD p ∧ okp p = true ∧ p.length ≤ j + 1 ∧ path (bL L) (pD p) = true := fun x hx => by
      rw [hP] at hx
      obtain ⟨p, hp', rfl⟩ := List.mem_map.mp hx
      exact ⟨p, rfl, ko.path (by omega) hp'⟩
    obtain ⟨x1, Yp, hx1, nxp, ep⟩ := s_pickC (n := n + 2 + dp) (k := k) (j := X.length) (X := Yd ++ [cL P]) (xs := P) hp2.app (by simp [← ld]) (by have := hp.lt; omega) Pne PL
    rw [show n + 2 + dp + 2 = n + 4 + dp by omega] at ep
    obtain ⟨Yp, rfl, nxp2⟩ := nxp.app hp2.lt
    obtain ⟨p, rfl, okp1, lp1, pa1⟩ := mem x1 hx1
    have nxp3 := nxd2.trans nxp2
    have hp3 := nxp3.pot hp.lt
    have lp := nxp3.len
    obtain ⟨d3, Y3, hd3, nx3, ed3⟩ := s_draw (n := n + 3 + dp) (μ := Yp ++ [cL P]) hp3.app 3 (by decide) (by decide)
    rw [show n + 3 + dp + 1 = n + 4 + dp by omega] at ed3
    obtain ⟨Y3, rfl, nx3b⟩ := nx3.app hp3.lt
    have nx3c := nxp3.trans nx3b
    have hp4 := nx3c.pot hp.lt
    have l3 := nx3c.len
    have q3 : opCmp .Eq (.int (d3 : Nat)) (.int 0) = some (decide (d3 = 0)) := by
      simp only [opCmp, opEq_int]
      congr 1
      rw [Bool.eq_iff_iff]; simp
    have bnd := hs.bnd
    have vX := vP X rfl
    -- up to the draw
    have pre : ∀ R : SS, sSeq ((sSet 3 (eCall 31 (evs [eV 2])))) (sSeq ((sIf (bOr (bCmp (opCmp .Eq) (eV 1) (eC (.int 0))) (bOr (bCmp (opCmp .Eq) (eV 3) (eLst (evs []))) (bCmp (opCmp .Eq) (eCall 23 (evs [eV 0, eC (.int 5)])) (eC (.int 0))))) (sRet (eTup (evs [eC (.str "nearest"), eCall 24 (evs [eV 0, eLst (evs [eTup (evs []), eTup (evs [eC (.int 0)]), eTup (evs [eC (.int 1)]), eTup (evs [eC (.int 0), eC (.int 2)]), eTup (evs [eC (.int 3), eC (.int 39)])])])]))) (sPass))) (sSeq ((sPar 4 5 (eCall 24 (evs [eV 0, eV 3])) (eV 2))) R)) (VM.run T (n + 4 + dp)) (startE 8 [.cel k, .dat (.int dI), sv]) X =
        R (VM.run T (n + 4 + dp)) [some (.cel k), some (.dat (.int dI)), some sv, some (.cel X.length), some (.dat (pD p)), some sv, none, none] (Yp ++ [cL P]) := fun R => by
      generalize hE : ((sRet (eTup (evs [eC (.str "nearest"), eCall 24 (evs [eV 0, eLst (evs [eTup (evs []), eTup (evs [eC (.int 0)]), eTup (evs [eC (.int 1)]), eTup (evs [eC (.int 0), eC (.int 2)]), eTup (evs [eC (.int 3), eC (.int 39)])])])]))) : SS) = EE at *
      simp only [cL] at *
      generalize pD p = pp at *
      simp [startE, sa, e31, q0, vX, qP, ed5, q5, ep, bnd]
    by_cases h3 : d3 = 0
    · -- same
      subst h3
      obtain ⟨x2, Yq, hx2, nxq, eq⟩ := s_pickC (n := n + 2 + dp) (k := k) (j := X.length) (X := Y3 ++ [cL P]) (xs := P) hp4.app (by simp [← l3]) (by have := hp.lt; omega) Pne PL
      rw [show n + 2 + dp + 2 = n + 4 + dp by omega] at eq
      obtain ⟨Yq, rfl, nxq2⟩ := nxq.app hp4.lt
      obtain ⟨q, rfl, okq1, lq1, qa1⟩ := mem x2 hx2
      have nxq3 := nx3c.trans nxq2
      have hp5 := nxq3.pot hp.lt
      have s1 := (hs.nxt nk nxq3).app [cL P]
      obtain ⟨t1, Z1, r1, m1, o1, g1, c1, i1⟩ := ih (Yq ++ [cL P]) L sv (j + 1) (by omega) ko.mono s1 nk hp5.app
      obtain ⟨Z1, rfl, m1b⟩ := m1.app hp5.lt
      have m1c := nxq3.trans m1b
      have hp6 := m1c.pot hp.lt
      have s2 := (hs.nxt nk m1c).app [cL P]
      obtain ⟨t2, Z2, r2, m2, o2, g2, c2, i2⟩ := ih (Z1 ++ [cL P]) L sv (j + 1) (by omega) ko.mono s2 nk hp6.app
      obtain ⟨Z2, rfl, m2b⟩ := m2.app hp6.lt
      have m2c := m1c.trans m2b
      refine ⟨.same p q t1 t2, Z2, ?_, m2c, by simp only [okT, okp1, okq1, o1, o2, Bool.and_self], by simp only [dpt]; omega, ?_, same_same pa1 qa1 i1 i2⟩
      · have en := dr_end (m := n + 4 + dp) (k := k) (Z := Yq ++ [cL P]) (w := .str "same") (p := pD p) (s := pD q) (t1 := t1) (t2 := t2) (dI := dI) (dm := (dp : Int)) (sv := sv) (sv5 := sv) (o3 := some (.cel X.length)) (o4 := some (.dat (pD p))) (o7 := none) (by omega) sa sa r1 r2
        have tk := tke Z2 [cL P] m2c
        rw [pre]
        have md : ∀ R : SS, sSeq ((sIf (bCmp (opCmp .Eq) (eCall 23 (evs [eV 0, eC (.int 3)])) (eC (.int 0))) (sSet 6 (eTup (evs [eC (.str "same"), eV 4, eCall 24 (evs [eV 0, eV 3])]))) (sSeq (sSet 7 (eCall 24 (evs [eV 0, eLst (evs [eC (.int 0), eNeg (eC (.int 999)), eC (.int 7), eTup (evs [eC (.str "a"), eC (.int 0)]), eTup (evs [eC (.str "g"), eC (.int 1)]), eTup (evs [eC (.str "p"), eC (.int 2)]), eTup (evs [eC (.str "p"), eC (.int 2)])])]))) (sSeq (sSet 6 (eTup (evs [eC (.str "is"), eV 4, eV 7]))) (sIf (bTru (eIsi .tuple (eV 7))) (sSet 5 (eBin .Add (eV 2) (eLst (evs [eTup (evs [eV 4, eIx (eV 7) (eC (.int 1))])])))) (sPass)))))) R (VM.run T (n + 4 + dp)) [some (.cel k), some (.dat (.int dI)), some sv, some (.cel X.length), some (.dat (pD p)), some sv, none, none] (Yp ++ [cL P]) =
            R (VM.run T (n + 4 + dp)) [some (.cel k), some (.dat (.int dI)), some sv, some (.cel X.length), some (.dat (pD p)), some sv, some (.dat (.tup [.str "same", pD p, pD q])), none] (Yq ++ [cL P]) := fun R => by
          simp only [cL] at *
          generalize pD p = pp at *
          generalize pD q = qq at *
          simp at q3 ed3
          simp [ed3, q3, eq]
        rw [md, en]
        have ed : (Tr.same p q t1 t2).d = .tup [.str "same", pD p, pD q, t1.d, t2.d] := rfl
        rw [ed]
        simp [callEnd, EV.out, tk]
      · simp only [cnt]
        have : 2 ^ (dp + 1 + 1) = 2 ^ (dp + 1) + 2 ^ (dp + 1) := by rw [Nat.pow_succ]; omega
        omega
    · -- is
      have q3 : opCmp .Eq (.int (d3 : Nat)) (.int 0) = some false := by rw [q3]; simp [h3]
      obtain ⟨s, Yq, hs1, nxq, eq⟩ := s_pick (n := n + 2 + dp) (k := k) (μ := Y3 ++ [cL P]) hp4.app shps (by decide) (by decide)
      rw [show n + 2 + dp + 2 = n + 4 + dp by omega] at eq
      obtain ⟨Yq, rfl, nxq2⟩ := nxq.app hp4.lt
      obtain ⟨oks1, sh⟩ := shps_ok s hs1
      have ish : isSh s = true := by simp only [oks, Bool.and_eq_true] at oks1; exact oks1.1
      have nxq3 := nx3c.trans nxq2
      have hp5 := nxq3.pot hp.lt
      have lq := nxq3.len
      obtain ⟨z0, zn, _, _⟩ := okp_ints okp1
      rcases sh with ⟨i, rfl⟩ | ⟨nn, m, rfl, m0, m2'⟩
      · -- a number
        have s1 := (hs.nxt nk nxq3).app [cL P]
        obtain ⟨t1, Z1, r1, m1, o1, g1, c1, i1⟩ := ih (Yq ++ [cL P]) L sv (j + 1) (by omega) ko.mono s1 nk hp5.app
        obtain ⟨Z1, rfl, m1b⟩ := m1.app hp5.lt
        have m1c := nxq3.trans m1b
        have hp6 := m1c.pot hp.lt
        have s2 := (hs.nxt nk m1c).app [cL P]
        obtain ⟨t2, Z2, r2, m2, o2, g2, c2, i2⟩ := ih (Z1 ++ [cL P]) L sv (j + 1) (by omega) ko.mono s2 nk hp6.app
        obtain ⟨Z2, rfl, m2b⟩ := m2.app hp6.lt
        have m2c := m1c.trans m2b
        refine ⟨.is p (.int i) t1 t2, Z2, ?_, m2c, by simp only [okT, okp1, oks1, o1, o2, Bool.and_self], by simp only [dpt]; omega, ?_, is_is pa1 ish i1 i2⟩
        · have en := dr_end (m := n + 4 + dp) (k := k) (Z := Yq ++ [cL P]) (w := .str "is") (p := pD p) (s := .int i) (t1 := t1) (t2 := t2) (dI := dI) (dm := (dp : Int)) (sv := sv) (sv5 := sv) (o3 := some (.cel X.length)) (o4 := some (.dat (pD p))) (o7 := some (.dat (.int i))) (by omega) sa sa r1 r2
          have tk := tke Z2 [cL P] m2c
          rw [pre]
          have md : ∀ R : SS, sSeq ((sIf (bCmp (opCmp .Eq) (eCall 23 (evs [eV 0, eC (.int 3)])) (eC (.int 0))) (sSet 6 (eTup (evs [eC (.str "same"), eV 4, eCall 24 (evs [eV 0, eV 3])]))) (sSeq (sSet 7 (eCall 24 (evs [eV 0, eLst (evs [eC (.int 0), eNeg (eC (.int 999)), eC (.int 7), eTup (evs [eC (.str "a"), eC (.int 0)]), eTup (evs [eC (.str "g"), eC (.int 1)]), eTup (evs [eC (.str "p"), eC (.int 2)]), eTup (evs [eC (.str "p"), eC (.int 2)])])]))) (sSeq (sSet 6 (eTup (evs [eC (.str "is"), eV 4, eV 7]))) (sIf (bTru (eIsi .tuple (eV 7))) (sSet 5 (eBin .Add (eV 2) (eLst (evs [eTup (evs [eV 4, eIx (eV 7) (eC (.int 1))])])))) (sPass)))))) R (VM.run T (n + 4 + dp)) [some (.cel k), some (.dat (.int dI)), some sv, some (.cel X.length), some (.dat (pD p)), some sv, none, none] (Yp ++ [cL P]) =
              R (VM.run T (n + 4 + dp)) [some (.cel k), some (.dat (.int dI)), some sv, some (.cel X.length), some (.dat (pD p)), some sv, some (.dat (.tup [.str "is", pD p, .int i])), some (.dat (.int i))] (Yq ++ [cL P]) := fun R => by
            simp only [cL, shps] at *
            generalize pD p = pp at *
            simp [ed3, q3, ng999, lm7, eq, isi]
          rw [md, en]
          have ed : (Tr.is p (.int i) t1 t2).d = .tup [.str "is", pD p, .int i, t1.d, t2.d] := rfl
          rw [ed]
          simp [callEnd, EV.out, tk]
        · simp only [cnt]
          have : 2 ^ (dp + 1 + 1) = 2 ^ (dp + 1) + 2 ^ (dp + 1) := by rw [Nat.pow_succ]; omega
          omega
      · -- a name
        have el : encL (p, m) = .tup [pD p, .int m] := rfl
        have em : L.map encL ++ [.tup [pD p, .int m]] = (L ++ [(p, m)]).map encL := by rw [List.map_append, ← el]; rfl
        have ll := ko.len
        have ad := addL (xs := L.map encL) (ys := [.tup [pD p, .int m]]) (by simp; omega)
        rw [em] at ad
        obtain ⟨M2, hM2⟩ : ∃ M2, M2 = (L ++ [(p, m)]).map encL := ⟨_, rfl⟩
        rw [← hM2] at ad
        have ko2 := ko.snoc okp1 lp1 m0 m2'
        have sn : Sq (.cel (X.length + 1)) ((L ++ [(p, m)]).map encL) (Yq ++ [cL P, cL M2]) := .inr ⟨_, rfl, by rw [← hM2, ← lq]; simp [cL]⟩
        obtain ⟨t1, Z1, r1, m1, o1, g1, c1, i1⟩ := ih (Yq ++ [cL P, cL M2]) (L ++ [(p, m)]) (.cel (X.length + 1)) (j + 1) (by omega) ko2 sn (by intro e; cases e; have := hp.lt; omega) hp5.app
        obtain ⟨Z1, rfl, m1b⟩ := m1.app hp5.lt
        have m1c := nxq3.trans m1b
        have hp6 := m1c.pot hp.lt
        have s2 := (hs.nxt nk m1c).app [cL P, cL M2]
        obtain ⟨t2, Z2, r2, m2, o2, g2, c2, i2⟩ := ih (Z1 ++ [cL P, cL M2]) L sv (j + 1) (by omega) ko.mono s2 nk hp6.app
        obtain ⟨Z2, rfl, m2b⟩ := m2.app hp6.lt
        have m2c := m1c.trans m2b
        have us : upS (bL L) (pD p) (.tup [.str nn, .int m]) = bL (L ++ [(p, m)]) := by
          rw [bL_app]; simp only [upS, pthI_p z0]
        refine ⟨.is p (.tup [.str nn, .int m]) t1 t2, Z2, ?_, m2c, by simp only [okT, okp1, oks1, o1, o2, Bool.and_self], by simp only [dpt]; omega, ?_, is_is pa1 ish (by rw [us]; exact i1) i2⟩
        · have en := dr_end (m := n + 4 + dp) (k := k) (Z := Yq ++ [cL P, cL M2]) (w := .str "is") (p := pD p) (s := .tup [.str nn, .int m]) (t1 := t1) (t2 := t2) (dI := dI) (dm := (dp : Int)) (sv := sv) (sv5 := .cel (X.length + 1)) (o3 := some (.cel X.length)) (o4 := some (.dat (pD p))) (o7 := some (.dat (.tup [.str nn, .int m]))) (by omega) rfl sa r1 r2
          have tk := tke Z2 [cL P, cL M2] m2c
          rw [pre]
          have see := ((hs.nxt nk nxq3).app [cL P]).see
          have ix : opIx (.tup [.str nn, .int m]) (.int 1) = some (.dat (.int m)) := ix1
          have lb : (Yq ++ [cL P]).length = X.length + 1 := by rw [List.length_append, lq]; rfl
          have md : ∀ R : SS, sSeq ((sIf (bCmp (opCmp .Eq) (eCall 23 (evs [eV 0, eC (.int 3)])) (eC (.int 0))) (sSet 6 (eTup (evs [eC (.str "same"), eV 4, eCall 24 (evs [eV 0, eV 3])]))) (sSeq (sSet 7 (eCall 24 (evs [eV 0, eLst (evs [eC (.int 0), eNeg (eC (.int 999)), eC (.int 7), eTup (evs [eC (.str "a"), eC (.int 0)]), eTup (evs [eC (.str "g"), eC (.int 1)]), eTup (evs [eC (.str "p"), eC (.int 2)]), eTup (evs [eC (.str "p"), eC (.int 2)])])]))) (sSeq (sSet 6 (eTup (evs [eC (.str "is"), eV 4, eV 7]))) (sIf (bTru (eIsi .tuple (eV 7))) (sSet 5 (eBin .Add (eV 2) (eLst (evs [eTup (evs [eV 4, eIx (eV 7) (eC (.int 1))])])))) (sPass)))))) R (VM.run T (n + 4 + dp)) [some (.cel k), some (.dat (.int dI)), some sv, some (.cel X.length), some (.dat (pD p)), some sv, none, none] (Yp ++ [cL P]) =
              R (VM.run T (n + 4 + dp)) [some (.cel k), some (.dat (.int dI)), some sv, some (.cel X.length), some (.dat (pD p)), some (.cel (X.length + 1)), some (.dat (.tup [.str "is", pD p, .tup [.str nn, .int m]])), some (.dat (.tup [.str nn, .int m]))] (Yq ++ [cL P, cL M2]) := fun R => by
            simp only [cL, shps] at *
            generalize List.map encL L = M1 at *
            generalize pD p = pp at *
            simp [ed3, q3, ng999, lm7, eq, isi_tup, see, ix, ad, lq]
          rw [md, en]
          have ed : (Tr.is p (.tup [.str nn, .int m]) t1 t2).d = .tup [.str "is", pD p, .tup [.str nn, .int m], t1.d, t2.d] := rfl
          rw [ed]
          simp [callEnd, EV.out, tk]
        · simp only [cnt]
          have : 2 ^ (dp + 1 + 1) = 2 ^ (dp + 1) + 2 ^ (dp + 1) := by rw [Nat.pow_succ]; omega
          omega
end K51
set_option maxHeartbeats 0
/-! k51: long trees. -/
namespace K51
open VM Law
open L2 (atI ixN)
def leB (B C : Kn) : Prop := ∀ q, B q ≤ C q
theorem path_mono {B C : Kn} (h : leB B C) {p : D} (hp : path B p = true) : path C p = true := by
  cases p with
  | tup ps =>
    cases ec : cts ps with
    | none => rw [path_none ec] at hp; cases hp
    | some is =>
      by_cases hn : is = []
      · subst hn
        simp only [path, ec] at hp; cases hp
      · rw [path_eq ec hn, decide_eq_true_eq] at hp ⊢
        have := h is.dropLast
        omega
  | _ => cases hp
theorem upS_mono {B C : Kn} (h : leB B C) (p s : D) : leB (upS B p s) (upS C p s) := by
  intro q
  unfold upS
  split
  · unfold upB
    have := h q
    split <;> omega
  · exact h q
theorem upS_le (B : Kn) (p s : D) : leB B (upS B p s) := by
  intro q
  unfold upS
  split
  · unfold upB
    split <;> omega
  · exact Int.le_refl _
theorem isTr_mono : ∀ (t : Tr) {B C : Kn}, leB B C → isTr B t.d = true → isTr C t.d = true
  | .lf ps, B, C, h, hb => by
    rw [isTr_o (by rintro w p s a b e; cases e)] at hb ⊢
    exact hb
  | .is p s a b, B, C, h, hb => by
    have w1 : isW "is" 1 = true := by decide +kernel
    simp only [Tr.d, isTr_5, w1, if_true, Bool.and_eq_true] at hb ⊢
    exact ⟨path_mono h hb.1, hb.2.1, isTr_mono a (upS_mono h _ _) hb.2.2.1, isTr_mono b h hb.2.2.2⟩
  | .same p q a b, B, C, h, hb => by
    have w1 : isW "same" 1 = false := by decide +kernel
    have w2 : isW "same" 2 = true := by decide +kernel
    simp only [Tr.d, isTr_5, w1, w2, if_true, Bool.false_eq_true, if_false, Bool.and_eq_true] at hb ⊢
    exact ⟨path_mono h hb.1, path_mono h hb.2.1, isTr_mono a h hb.2.2.1, isTr_mono b h hb.2.2.2⟩
theorem bL_le {a b : Int} (h : a ≤ b) : leB (bL [([], a)]) (bL [([], b)]) := by
  intro q
  simp only [bL]
  split <;> omega
theorem path_one {many i : Int} (h0 : 0 ≤ i) (h : i < many) : path (bL [([], many)]) (pD [i]) = true := by
  rw [path_p (by simpa using h0) (by simp)]
  simp [bL]; omega
theorem okp_one {i : Int} (h0 : 0 ≤ i) (h : i < 8) : okp [i] = true := by
  simp [okp]; omega
def lvs : List D := [.tup [], .tup [.int 5], .tup [.int 38, .int 39]]
theorem lvs_ok : ∀ x ∈ lvs, ∃ ps, x = pD ps ∧ okl ps = true := by
  have e : lvs = [[], [5], [38, 39]].map pD := rfl
  intro x hx
  rw [e] at hx
  obtain ⟨ps, hp, rfl⟩ := List.mem_map.mp hx
  refine ⟨ps, rfl, ?_⟩
  simp only [List.mem_cons, List.not_mem_nil, or_false] at hp
  rcases hp with rfl | rfl | rfl <;> decide
def shl : List D := [.int 999, .int 0, .tup [.str "a", .int 0], .tup [.str "name1234", .int 8]]
theorem shl_ok : ∀ x ∈ shl, oks x = true := by
  intro x hx
  simp only [shl, List.mem_cons, List.not_mem_nil, or_false] at hx
  rcases hx with rfl | rfl | rfl | rfl
  · exact oks_int _ (by decide) (by decide)
  · exact oks_int _ (by decide) (by decide)
  · exact oks_nm 0 rfl 0 (by decide) (by decide)
  · exact oks_nm 3 rfl 8 (by decide) (by decide)
theorem for_inv {α : Type} {enc : α → D} {Q : List α} {F : Fns} {p : SG} {b : SS} (Inv : List α → Env → Sto → Prop)
    (h : ∀ q Q' ρ X, q ∈ Q → Inv (q :: Q') ρ X → ∃ ρ1 X1, p (enc q) F ρ X = .ok ρ1 X1 ∧ ∃ ρ2 X2, b F ρ1 X1 = .ok (.nx ρ2) X2 ∧ Inv Q' ρ2 X2)
    (ρ : Env) (X : Sto) (hI : Inv Q ρ X) : ∃ ρ' X', forL F (.vals (Q.map enc)) p b (Q.length + 1) 0 ρ X = .ok (.nx ρ') X' ∧ Inv [] ρ' X' :=
  for_invS (S := .vals (Q.map enc)) Inv (fun _ _ _ _ => rfl) h (Q.length + 1) 0 ρ X hI (Nat.zero_le _) (by omega)
section
variable {n k : Nat} {X : Sto}
theorem dr_eq0 (d : Nat) : opCmp .Eq (.int (d : Nat)) (.int 0) = some (decide (d = 0)) := by
  simp only [opCmp, opEq_int]
  congr 1
  rw [Bool.eq_iff_iff]; simp
/-- one more test -/
theorem lg_step {m : Nat} {many : Int} {t : Tr} {o3 o4 o5 o6 : Option SV} {Y : Sto} (h0 : 0 < many) (h8 : many ≤ 8) (hp : PotAt Y k) (ok : okT t = true) (tr : isTr (bL [([], many)]) t.d = true) :
    ∃ (t' : Tr) (Y' : Sto) (p4 p5 p6 : Option SV), ((sSeq (sPar 4 5 (eTup (evs [eC (.str "nearest"), eCall 24 (evs [eV 0, eLst (evs [eTup (evs []), eTup (evs [eC (.int 5)]), eTup (evs [eC (.int 38), eC (.int 39)])])])])) (eTup (evs [eCall 23 (evs [eV 0, eV 1])]))) (sSeq (sSet 6 (eTup (evs [eC (.str "is"), eV 5, eCall 24 (evs [eV 0, eLst (evs [eC (.int 999), eC (.int 0), eTup (evs [eC (.str "a"), eC (.int 0)]), eTup (evs [eC (.str "name1234"), eC (.int 8)])])])]))) (sSeq (sIf (bCmp (opCmp .Eq) (eCall 23 (evs [eV 0, eC (.int 4)])) (eC (.int 0))) (sSet 6 (eTup (evs [eC (.str "same"), eV 5, eTup (evs [eCall 23 (evs [eV 0, eV 1])])]))) (sPass)) (sSet 2 (eBin .Add (eV 6) (eIf (bCmp (opCmp .Eq) (eCall 23 (evs [eV 0, eC (.int 2)])) (eC (.int 0))) (eTup (evs [eV 4, eV 2])) (eTup (evs [eV 2, eV 4])))))))) : SS) (VM.run T (m + 2)) [some (.cel k), some (.dat (.int many)), some (.dat t.d), o3, o4, o5, o6] Y = .ok (.nx [some (.cel k), some (.dat (.int many)), some (.dat t'.d), o3, p4, p5, p6]) Y' ∧
      Nxt Y Y' k ∧ okT t' = true ∧ dpt t' ≤ dpt t + 1 ∧ cnt t' ≤ cnt t + 2 ∧ isTr (bL [([], many)]) t'.d = true := by
  obtain ⟨x1, Y1, hx1, n1, e1⟩ := s_pick (n := m) hp lvs (by decide) (by decide)
  obtain ⟨ps, rfl, okps⟩ := lvs_ok x1 hx1
  have hp1 := n1.pot hp.lt
  obtain ⟨i, Y2, hi, n2, e2⟩ := s_draw (n := m + 1) hp1 many h0 (by omega)
  have hp2 := n2.pot hp1.lt
  obtain ⟨s, Y3, hs, n3, e3⟩ := s_pick (n := m) hp2 shl (by decide) (by decide)
  have oks1 := shl_ok s hs
  have ish : isSh s = true := by simp only [oks, Bool.and_eq_true] at oks1; exact oks1.1
  have hp3 := n3.pot hp2.lt
  obtain ⟨d4, Y4, h4, n4, e4⟩ := s_draw (n := m + 1) hp3 4 (by decide) (by decide)
  have hp4 := n4.pot hp3.lt
  have q4 := dr_eq0 d4
  have pi := path_one (many := many) (i := (i : Int)) (by omega) hi
  have oki := okp_one (i := (i : Int)) (by omega) (by omega)
  have pdi : pD [(i : Int)] = .tup [.int (i : Int)] := rfl
  have lf : isTr (bL [([], many)]) (Tr.lf ps).d = true := lf_lf okps
  have okl1 : okT (.lf ps) = true := okps
  have dl : (Tr.lf ps).d = .tup [.str "nearest", pD ps] := rfl
  have c1 : dpt (.lf ps) = 1 := rfl
  have c2 : cnt (.lf ps) = 1 := rfl
  have dp := dpt_pos t
  by_cases c4 : d4 = 0
  · subst c4
    obtain ⟨j, Y5, hj, n5, e5⟩ := s_draw (n := m + 1) hp4 many h0 (by omega)
    have hp5 := n5.pot hp4.lt
    obtain ⟨d6, Y6, h6, n6, e6⟩ := s_draw (n := m + 1) hp5 2 (by decide) (by decide)
    have q6 := dr_eq0 d6
    have pj := path_one (many := many) (i := (j : Int)) (by omega) hj
    have okj := okp_one (i := (j : Int)) (by omega) (by omega)
    have pdj : pD [(j : Int)] = .tup [.int (j : Int)] := rfl
    have nx := ((((n1.trans n2).trans n3).trans n4).trans n5).trans n6
    have ad : ∀ A B : D, opBin .Add (.tup [.str "same", .tup [.int (i : Int)], .tup [.int (j : Int)]]) (.tup [A, B]) = some (.dat (.tup [.str "same", .tup [.int (i : Int)], .tup [.int (j : Int)], A, B])) := fun A B => addTup [_, _, _] [A, B] (by simp)
    simp only [lvs, shl] at e1 e3
    by_cases c6 : d6 = 0
    · subst c6
      refine ⟨.same [(i : Int)] [(j : Int)] (.lf ps) t, Y6, some (.dat (.tup [.str "nearest", pD ps])), some (.dat (.tup [.int (i : Int)])), some (.dat (.tup [.str "same", .tup [.int (i : Int)], .tup [.int (j : Int)]])), ?_, nx, by simp [okT, oki, okj, ok, okps], by simp only [dpt]; omega, by simp only [cnt]; omega, same_same pi pj lf tr⟩
      have ed : (Tr.same [(i : Int)] [(j : Int)] (.lf ps) t).d = .tup [.str "same", .tup [.int (i : Int)], .tup [.int (j : Int)], .tup [.str "nearest", pD ps], t.d] := rfl
      rw [ed]
      simp at q4 q6 e4 e6
      generalize t.d = td at *
      generalize pD ps = pp at *
      simp [e1, e2, e3, e4, q4, e5, e6, q6, ad]
    · refine ⟨.same [(i : Int)] [(j : Int)] t (.lf ps), Y6, some (.dat (.tup [.str "nearest", pD ps])), some (.dat (.tup [.int (i : Int)])), some (.dat (.tup [.str "same", .tup [.int (i : Int)], .tup [.int (j : Int)]])), ?_, nx, by simp [okT, oki, okj, ok, okps], by simp only [dpt]; omega, by simp only [cnt]; omega, same_same pi pj tr lf⟩
      have ed : (Tr.same [(i : Int)] [(j : Int)] t (.lf ps)).d = .tup [.str "same", .tup [.int (i : Int)], .tup [.int (j : Int)], t.d, .tup [.str "nearest", pD ps]] := rfl
      rw [ed]
      have q6 : opCmp .Eq (.int (d6 : Nat)) (.int 0) = some false := by rw [q6]; simp [c6]
      simp at q4 e4
      generalize t.d = td at *
      generalize pD ps = pp at *
      simp [e1, e2, e3, e4, q4, e5, e6, q6, ad]
  · have q4 : opCmp .Eq (.int (d4 : Nat)) (.int 0) = some false := by rw [q4]; simp [c4]
    obtain ⟨d6, Y6, h6, n6, e6⟩ := s_draw (n := m + 1) hp4 2 (by decide) (by decide)
    have q6 := dr_eq0 d6
    have nx := (((n1.trans n2).trans n3).trans n4).trans n6
    have ad : ∀ A B : D, opBin .Add (.tup [.str "is", .tup [.int (i : Int)], s]) (.tup [A, B]) = some (.dat (.tup [.str "is", .tup [.int (i : Int)], s, A, B])) := fun A B => addTup [_, _, _] [A, B] (by simp)
    simp only [lvs, shl] at e1 e3
    by_cases c6 : d6 = 0
    · subst c6
      refine ⟨.is [(i : Int)] s (.lf ps) t, Y6, some (.dat (.tup [.str "nearest", pD ps])), some (.dat (.tup [.int (i : Int)])), some (.dat (.tup [.str "is", .tup [.int (i : Int)], s])), ?_, nx, by simp [okT, oki, oks1, ok, okps], by simp only [dpt]; omega, by simp only [cnt]; omega, is_is pi ish (isTr_mono _ (upS_le _ _ _) lf) tr⟩
      have ed : (Tr.is [(i : Int)] s (.lf ps) t).d = .tup [.str "is", .tup [.int (i : Int)], s, .tup [.str "nearest", pD ps], t.d] := rfl
      rw [ed]
      simp at q6 e6
      generalize t.d = td at *
      generalize pD ps = pp at *
      simp [e1, e2, e3, e4, q4, e6, q6, ad]
    · refine ⟨.is [(i : Int)] s t (.lf ps), Y6, some (.dat (.tup [.str "nearest", pD ps])), some (.dat (.tup [.int (i : Int)])), some (.dat (.tup [.str "is", .tup [.int (i : Int)], s])), ?_, nx, by simp [okT, oki, oks1, ok, okps], by simp only [dpt]; omega, by simp only [cnt]; omega, is_is pi ish (isTr_mono _ (upS_le _ _ _) tr) lf⟩
      have ed : (Tr.is [(i : Int)] s t (.lf ps)).d = .tup [.str "is", .tup [.int (i : Int)], s, t.d, .tup [.str "nearest", pD ps]] := rfl
      rw [ed]
      have q6 : opCmp .Eq (.int (d6 : Nat)) (.int 0) = some false := by rw [q6]; simp [c6]
      generalize t.d = td at *
      generalize pD ps = pp at *
      simp [e1, e2, e3, e4, q4, e6, q6, ad]
theorem l_long {many : Int} (h0 : 0 < many) (h8 : many ≤ 8) (hp : PotAt X k) : ∃ (t : Tr) (Y : Sto), VM.run T (n + 3) 33 [.cel k, .dat (.int many)] X = .ok (.dat t.d) Y ∧ Nxt X Y k ∧ okT t = true ∧ dpt t ≤ 31 ∧ cnt t ≤ 61 ∧ isTr (bL [([], many)]) t.d = true := by
  rw [run_at (nl := 7) (b := P__law_long) (by rfl)]
  unfold P__law_long
  obtain ⟨i, Y1, hi, n1, e1⟩ := s_draw (n := n + 1) hp 40 (by decide) (by decide)
  have hp1 := n1.pot hp.lt
  obtain ⟨d, Y2, hd, n2, e2⟩ := s_draw (n := n + 1) hp1 18 (by decide) (by decide)
  have hp2 := n2.pot hp1.lt
  have ok0 : okT (.lf [(i : Int)]) = true := by simp [okT, okl, rise]; omega
  have tr0 : isTr (bL [([], many)]) (Tr.lf [(i : Int)]).d = true := lf_lf ok0
  have ad : opBin .Add (.int 12) (.int (d : Nat)) = some (.dat (.int (12 + (d : Int)))) := rfl
  have rg := rngD (12 + (d : Int)) (by omega) (by omega)
  obtain ⟨N, hN⟩ : ∃ N, N = (12 + (d : Int)).toNat := ⟨_, rfl⟩
  have hN29 : N ≤ 29 := by omega
  rw [← hN] at rg
  have lp := for_inv (enc := fun i : Nat => D.int (i : Int)) (Q := List.range N) (F := VM.run T (n + 2)) (p := gNm 3) (b := (sSeq (sPar 4 5 (eTup (evs [eC (.str "nearest"), eCall 24 (evs [eV 0, eLst (evs [eTup (evs []), eTup (evs [eC (.int 5)]), eTup (evs [eC (.int 38), eC (.int 39)])])])])) (eTup (evs [eCall 23 (evs [eV 0, eV 1])]))) (sSeq (sSet 6 (eTup (evs [eC (.str "is"), eV 5, eCall 24 (evs [eV 0, eLst (evs [eC (.int 999), eC (.int 0), eTup (evs [eC (.str "a"), eC (.int 0)]), eTup (evs [eC (.str "name1234"), eC (.int 8)])])])]))) (sSeq (sIf (bCmp (opCmp .Eq) (eCall 23 (evs [eV 0, eC (.int 4)])) (eC (.int 0))) (sSet 6 (eTup (evs [eC (.str "same"), eV 5, eTup (evs [eCall 23 (evs [eV 0, eV 1])])]))) (sPass)) (sSet 2 (eBin .Add (eV 6) (eIf (bCmp (opCmp .Eq) (eCall 23 (evs [eV 0, eC (.int 2)])) (eC (.int 0))) (eTup (evs [eV 4, eV 2])) (eTup (evs [eV 2, eV 4])))))))))
    (fun Q' ρ Y => ∃ (t : Tr) (o3 o4 o5 o6 : Option SV), ρ = [some (.cel k), some (.dat (.int many)), some (.dat t.d), o3, o4, o5, o6] ∧ Nxt X Y k ∧ okT t = true ∧ dpt t + Q'.length ≤ N + 1 ∧ cnt t + 2 * Q'.length ≤ 2 * N + 1 ∧ isTr (bL [([], many)]) t.d = true)
    (by
      rintro q Q' ρ Y hq ⟨t, o3, o4, o5, o6, rfl, nx, ok, hdp, hct, tr⟩
      have hpY := nx.pot hp.lt
      obtain ⟨t', Y', p4, p5, p6, e, nx', ok', dp', ct', tr'⟩ := lg_step (m := n) (o3 := some (.dat (.int (q : Int)))) (o4 := o4) (o5 := o5) (o6 := o6) h0 h8 hpY ok tr
      simp only [List.length_cons] at hdp hct
      exact ⟨_, Y, rfl, _, Y', e, t', _, p4, p5, p6, rfl, nx.trans nx', ok', by omega, by omega, tr'⟩)
    [some (.cel k), some (.dat (.int many)), some (.dat (Tr.lf [(i : Int)]).d), none, none, none, none] Y2 ⟨_, _, _, _, _, rfl, n1.trans n2, ok0, by simp [dpt]; omega, by simp [cnt]; omega, tr0⟩
  obtain ⟨ρ', Y3, e3, t, o3, o4, o5, o6, rfl, nx, ok, hdp, hct, tr⟩ := lp
  refine ⟨t, Y3, ?_, nx, ok, by simp at hdp; omega, by simp at hct; omega, tr⟩
  have ed : (Tr.lf [(i : Int)]).d = .tup [.str "nearest", .tup [.int (i : Int)]] := rfl
  rw [ed] at e3
  have rl : ((List.range N).map fun i : Nat => D.int (i : Int)).length + 1 = (List.range N).length + 1 := by simp
  rw [← rl] at e3
  have tk : List.take X.length Y3 = Y3 := List.take_of_length_le (by rw [nx.len]; exact Nat.le_refl _)
  generalize ((List.range N).map fun i : Nat => D.int (i : Int)) = RL at *
  generalize hB : ((sSeq (sPar 4 5 (eTup (evs [eC (.str "nearest"), eCall 24 (evs [eV 0, eLst (evs [eTup (evs []), eTup (evs [eC (.int 5)]), eTup (evs [eC (.int 38), eC (.int 39)])])])])) (eTup (evs [eCall 23 (evs [eV 0, eV 1])]))) (sSeq (sSet 6 (eTup (evs [eC (.str "is"), eV 5, eCall 24 (evs [eV 0, eLst (evs [eC (.int 999), eC (.int 0), eTup (evs [eC (.str "a"), eC (.int 0)]), eTup (evs [eC (.str "name1234"), eC (.int 8)])])])]))) (sSeq (sIf (bCmp (opCmp .Eq) (eCall 23 (evs [eV 0, eC (.int 4)])) (eC (.int 0))) (sSet 6 (eTup (evs [eC (.str "same"), eV 5, eTup (evs [eCall 23 (evs [eV 0, eV 1])])]))) (sPass)) (sSet 2 (eBin .Add (eV 6) (eIf (bCmp (opCmp .Eq) (eCall 23 (evs [eV 0, eC (.int 2)])) (eC (.int 0))) (eTup (evs [eV 4, eV 2])) (eTup (evs [eV 2, eV 4])))))))) : SS) = BB at *
  generalize t.d = td at *
  simp [startE, e1, e2, ad, rg, e3, callEnd, EV.out, tk]
end
end K51
set_option maxHeartbeats 0
/-! k51: bent ones. -/
namespace K51
open VM Law
open L2 (atI ixN)
structure RR (dp c : Nat) (v : D) : Prop where
  g : gv v = true
  f : ∀ n, dp + 4 ≤ n → fits n v = true
  n : tn v ≤ c
  d : td v ≤ dp
def EvV (ev : EV) (v : D) : Prop := ev = .dat v ∨ ∃ L, v = .lst L ∧ ev = .new (.lst L)
theorem EvV.frz {ev : EV} {v : D} (h : EvV ev v) (X : Sto) : ev.frz X = some (v, X) := by
  rcases h with rfl | ⟨L, rfl, rfl⟩ <;> rfl
theorem RR.tr {t : Tr} (h : okT t = true) (hd : dpt t ≤ 40) : RR (dpt t) (cnt t) t.d := ⟨gv_tr t h hd, fun n hn => fits_tr t n h (by omega), by rw [tn_tr]; exact Nat.le_refl _, by rw [td_tr]; exact Nat.le_refl _⟩
theorem RR.mono {d d' c c' : Nat} {v : D} (h : RR d c v) (hd : d ≤ d') (hc : c ≤ c') : RR d' c' v := ⟨h.g, fun n hn => h.f n (by omega), Nat.le_trans h.n hc, Nat.le_trans h.d hd⟩
theorem ftL (n : Nat) (ds : List D) : fits (n + 1) (.lst ds) = fitsAll n ds := by simp only [fits]
theorem f_int (i : Int) : ∀ n, fits n (.int i) = true := fits_i i
theorem f_bl (b : Bool) (n : Nat) : fits n (.bl b) = true := by cases n <;> rfl
theorem f_non (n : Nat) : fits n .non = true := by cases n <;> rfl
/-- no tuple -/
theorem RR.other {d c : Nat} {v : D} (hv : isi .tuple v = false) (f : ∀ n, 5 ≤ n → fits n v = true) (hd : 1 ≤ d) (hc : 1 ≤ c) : RR d c v := by
  refine ⟨?_, fun n hn => f n (by omega), ?_, ?_⟩
  · cases v <;> simp [isi] at hv <;> rfl
  · have : tn v = 1 := by cases v <;> simp [isi] at hv <;> rfl
    omega
  · have : td v = 1 := by cases v <;> simp [isi] at hv <;> rfl
    omega
theorem td1 {ds : List D} (h : ds.length ≠ 5) : td (.tup ds) = 1 ∧ tn (.tup ds) = 1 := by
  match ds, h with
  | [], _ => exact ⟨rfl, rfl⟩
  | [_], _ => exact ⟨rfl, rfl⟩
  | [_, _], _ => exact ⟨rfl, rfl⟩
  | [_, _, _], _ => exact ⟨rfl, rfl⟩
  | [_, _, _, _], _ => exact ⟨rfl, rfl⟩
  | [_, _, _, _, _], h => exact absurd rfl h
  | _ :: _ :: _ :: _ :: _ :: _ :: _, _ => exact ⟨rfl, rfl⟩
/-- tuples of other lengths -/
theorem RR.tup {d c : Nat} {w : D} {r : List D} (h4 : (w :: r).length ≠ 5) (h2 : r.length ≠ 1) (hw : wOk w = true) (hl : r.length ≤ 60) (f : ∀ n, d + 4 ≤ n → fits n (.tup (w :: r)) = true) (hd : 1 ≤ d) (hd2 : d ≤ 60) (hc : 1 ≤ c) : RR d c (.tup (w :: r)) := by
  obtain ⟨e1, e2⟩ := td1 h4
  refine ⟨?_, f, by rw [e2]; exact hc, by rw [e1]; exact hd⟩
  have f64 := f 64 (by omega)
  match r, h4, h2, hl, f64 with
  | [], _, _, _, f64 => simp [gv, f64, hw]
  | [_], _, h2, _, _ => exact absurd rfl h2
  | [_, _], _, _, _, f64 => simp [gv, f64, hw]
  | [_, _, _], _, _, _, f64 => simp [gv, f64, hw]
  | [_, _, _, _], h4, _, _, _ => exact absurd rfl h4
  | _ :: _ :: _ :: _ :: _ :: _, _, _, hl, f64 =>
    simp only [gv, f64, hw, Bool.true_and, decide_eq_true_eq]
    exact hl
theorem RR.leaf {d c : Nat} {w x : D} (hw : wOk w = true) (hx : lOk x = true) (fw : ∀ n, fits n w = true) (f : ∀ n, 3 ≤ n → fits n x = true) (hd : 1 ≤ d) (hc : 1 ≤ c) : RR d c (.tup [w, x]) := by
  have ff : ∀ n, d + 4 ≤ n → fits n (.tup [w, x]) = true := fun n hn => by
    obtain ⟨m, rfl⟩ : ∃ m, n = m + 1 := ⟨n - 1, by omega⟩
    simp only [ftT, faC, faN, fw, f m (by omega), Bool.and_self]
  obtain ⟨e1, e2⟩ := td1 (ds := [w, x]) (by simp)
  refine ⟨?_, ff, by rw [e2]; exact hc, by rw [e1]; exact hd⟩
  have f64 : fits 64 (.tup [w, x]) = true := by
    simp only [show (64 : Nat) = 63 + 1 from rfl, ftT, faC, faN, fw, f 63 (by omega), Bool.and_self]
  simp only [gv, f64, hw, hx, Bool.and_self]
theorem RR.node {da ca db cb d c : Nat} {w P S A B : D} (hw : wOk w = true) (fw : ∀ n, fits n w = true) (hP : pOk P = true) (fP : ∀ n, 3 ≤ n → fits n P = true) (hS : pOk S = true) (sS : sOk S = true) (fS : ∀ n, 3 ≤ n → fits n S = true)
    (rA : RR da ca A) (rB : RR db cb B) (hd : 1 + max da db ≤ d) (hd2 : d ≤ 60) (hc : 1 + ca + cb ≤ c) : RR d c (.tup [w, P, S, A, B]) := by
  have ff : ∀ n, d + 4 ≤ n → fits n (.tup [w, P, S, A, B]) = true := fun n hn => by
    obtain ⟨m, rfl⟩ : ∃ m, n = m + 1 := ⟨n - 1, by omega⟩
    simp only [ftT, faC, faN, fw, fP m (by omega), fS m (by omega), rA.f m (by omega), rB.f m (by omega), Bool.and_self]
  refine ⟨?_, ff, ?_, ?_⟩
  · simp only [gv, ff 64 (by omega), hw, hP, hS, sS, rA.g, rB.g, Bool.and_self]
  · have := rA.n; have := rB.n
    rw [tn]; omega
  · have := rA.d; have := rB.d
    rw [td]; omega
theorem eqI (a b : Int) : opCmp .Eq (.int a) (.int b) = some (a == b) := opEq_int a b
theorem f_lits (l : List Int) (n : Nat) (h : 1 ≤ n) : fits n (.lst (l.map .int)) = true := by
  obtain ⟨m, rfl⟩ : ∃ m, n = m + 1 := ⟨n - 1, by omega⟩
  rw [ftL]; exact fits_is l m
theorem f_pD (l : List Int) (n : Nat) (h : 1 ≤ n) : fits n (pD l) = true := by
  obtain ⟨m, rfl⟩ : ∃ m, n = m + 1 := ⟨n - 1, by omega⟩
  exact fits_p l m
theorem fw_near : ∀ n, fits n (.str "nearest") = true := fits_wd 0
theorem hw_near : wOk (.str "nearest") = true := wOk_wd 0
theorem lOk_pD {l : List Int} (h : l.length ≤ 200) : lOk (pD l) = true := by simp only [lOk, pD, List.length_map, decide_eq_true_eq]; exact h
def oddL : List D := [.non, .int 0, .tup [], .tup [.str "nearest"], .str "nearest", .tup [.str "farthest", .tup []], .tup [.str "nearest", .non]]
theorem RR.unit {d c : Nat} (hd : 1 ≤ d) (hc : 1 ≤ c) : RR d c (.tup []) := ⟨rfl, fun n hn => by
  obtain ⟨m, rfl⟩ : ∃ m, n = m + 1 := ⟨n - 1, by omega⟩
  rfl, hc, hd⟩
theorem oddL_ok : ∀ x ∈ oddL, RR 1 1 x := by
  intro x hx
  simp only [oddL, List.mem_cons, List.not_mem_nil, or_false] at hx
  rcases hx with rfl | rfl | rfl | rfl | rfl | rfl | rfl
  · exact .other rfl (fun n _ => f_non n) (Nat.le_refl _) (Nat.le_refl _)
  · exact .other rfl (fun n _ => f_int 0 n) (Nat.le_refl _) (Nat.le_refl _)
  · exact .unit (Nat.le_refl _) (Nat.le_refl _)
  · refine .tup (by simp) (by simp) hw_near (by simp) (fun n hn => ?_) (Nat.le_refl _) (by decide) (Nat.le_refl _)
    obtain ⟨m, rfl⟩ : ∃ m, n = m + 1 := ⟨n - 1, by omega⟩
    simp only [ftT, faC, faN, fw_near, Bool.and_self]
  · exact .other rfl (fun n _ => fw_near n) (Nat.le_refl _) (Nat.le_refl _)
  · exact .leaf (wOk_wd 3) rfl (fits_wd 3) (fun n hn => f_pD [] n (by omega)) (Nat.le_refl _) (Nat.le_refl _)
  · exact .leaf hw_near rfl fw_near (fun n _ => f_non n) (Nat.le_refl _) (Nat.le_refl _)
section
variable {n k : Nat} {X : Sto}
theorem tk_of {Y : Sto} (nx : Nxt X Y k) : List.take X.length Y = Y := List.take_of_length_le (by rw [nx.len]; exact Nat.le_refl _)
theorem l_bleaf {ps : List Int} (ok : okl ps = true) (hp : PotAt X k) : ∃ (ev : EV) (v : D) (Y : Sto), VM.run T (n + 3) 34 [.cel k, .dat (Tr.lf ps).d] X = .ok ev Y ∧ Nxt X Y k ∧ EvV ev v ∧ RR 1 1 v := by
  rw [run_at (nl := 3) (b := P__law_bent_leaf) (by rfl)]
  unfold P__law_bent_leaf
  obtain ⟨d, Y, hd, nx, e⟩ := s_draw (n := n + 1) hp 9 (by decide) (by decide)
  have hp1 := nx.pot hp.lt
  have tk := tk_of nx
  have dl : (Tr.lf ps).d = .tup [.str "nearest", pD ps] := rfl
  rw [dl]
  have i1 : opIx (.tup [.str "nearest", pD ps]) (.int 1) = some (.dat (pD ps)) := ix1
  simp only [okl, Bool.and_eq_true, decide_eq_true_eq] at ok
  have l2 := ok.1
  have m1 : (1 : Nat) ≤ 1 := Nat.le_refl _
  have hc : d = 0 ∨ d = 1 ∨ d = 2 ∨ d = 3 ∨ d = 4 ∨ d = 5 ∨ d = 6 ∨ d = 7 ∨ d = 8 := by omega
  rcases hc with rfl | rfl | rfl | rfl | rfl | rfl | rfl | rfl | rfl
  · have bl : bList [pD ps] = some (.new (.lst (ps.map .int))) := rfl
    refine ⟨.dat (.tup [.str "nearest", .lst (ps.map .int)]), _, Y, ?_, nx, .inl rfl, .leaf hw_near rfl fw_near (fun n hn => f_lits ps n (by omega)) m1 m1⟩
    generalize pD ps = pp at *
    simp at e
    simp [startE, e, eqI, i1, bl, callEnd, EV.out, tk]
  · have ad := addT ps [40] (by simp; omega)
    have p4 : pD [40] = .tup [.int 40] := rfl
    rw [p4] at ad
    refine ⟨.dat (.tup [.str "nearest", pD (ps ++ [40])]), _, Y, ?_, nx, .inl rfl, .leaf hw_near (lOk_pD (by simp; omega)) fw_near (fun n hn => f_pD _ n (by omega)) m1 m1⟩
    generalize pD ps = pp at *
    simp at e
    simp [startE, e, eqI, i1, ad, callEnd, EV.out, tk]
  · have ad := addT ps ps (by omega)
    refine ⟨.dat (.tup [.str "nearest", pD (ps ++ ps)]), _, Y, ?_, nx, .inl rfl, .leaf hw_near (lOk_pD (by simp; omega)) fw_near (fun n hn => f_pD _ n (by omega)) m1 m1⟩
    generalize pD ps = pp at *
    simp at e
    simp [startE, e, eqI, i1, ad, callEnd, EV.out, tk]
  · refine ⟨.dat (.tup [.str "nearest", pD ps.reverse]), _, Y, ?_, nx, .inl rfl, .leaf hw_near (lOk_pD (by simp; omega)) fw_near (fun n hn => f_pD _ n (by omega)) m1 m1⟩
    have er : pD ps.reverse = .tup (ps.map D.int).reverse := by unfold pD; rw [List.map_reverse]
    rw [er]
    have ep : pD ps = .tup (ps.map D.int) := rfl
    rw [ep] at i1 ⊢
    generalize ps.map D.int = pp at *
    simp at e
    simp [startE, e, eqI, i1, callEnd, EV.out, tk]
  · refine ⟨.dat (.tup [.str "nearest", .tup [.bl true]]), _, Y, ?_, nx, .inl rfl, .leaf hw_near rfl fw_near (fun n hn => ?_) m1 m1⟩
    · generalize pD ps = pp at *
      simp at e
      simp [startE, e, eqI, callEnd, EV.out, tk]
    · obtain ⟨m, rfl⟩ : ∃ m, n = m + 1 := ⟨n - 1, by omega⟩
      simp only [ftT, faC, faN, f_bl, Bool.and_self]
  · have ad := addT [-1] ps (by simp; omega)
    have p4 : pD [-1] = .tup [.int (-1)] := rfl
    rw [p4] at ad
    have ng : (eNeg (eC (.int 1)) : SE) = fun F ρ X => .ok (.dat (.int (-1))) X := by rfl
    refine ⟨.dat (.tup [.str "nearest", pD ([-1] ++ ps)]), _, Y, ?_, nx, .inl rfl, .leaf hw_near (lOk_pD (by simp; omega)) fw_near (fun n hn => f_pD _ n (by omega)) m1 m1⟩
    generalize pD ([-1] ++ ps) = p2 at *
    generalize pD ps = pp at *
    simp at e
    simp [startE, e, eqI, i1, ng, ad, callEnd, EV.out, tk]
  · have cu := cut_one [.str "nearest", pD ps]
    simp only [List.tail_cons] at cu
    have ad : opBin .Add (.tup [.str "nearest", pD ps]) (.tup [pD ps]) = some (.dat (.tup [.str "nearest", pD ps, pD ps])) := addTup [_, _] [_] (by simp)
    refine ⟨.dat (.tup [.str "nearest", pD ps, pD ps]), _, Y, ?_, nx, .inl rfl, .tup (by simp) (by simp) hw_near (by simp) (fun n hn => ?_) m1 (by decide) m1⟩
    · generalize pD ps = pp at *
      simp at e
      simp [startE, e, eqI, oSome, oNone, cu, ad, callEnd, EV.out, tk]
    · obtain ⟨m, rfl⟩ : ∃ m, n = m + 1 := ⟨n - 1, by omega⟩
      simp only [ftT, faC, faN, fw_near, f_pD ps m (by omega), Bool.and_self]
  · have bl : bList [.tup [.str "nearest", pD ps]] = some (.new (.lst [.str "nearest", pD ps])) := rfl
    refine ⟨.new (.lst [.str "nearest", pD ps]), _, Y, ?_, nx, .inr ⟨_, rfl, rfl⟩, .other rfl (fun n hn => ?_) m1 m1⟩
    · generalize pD ps = pp at *
      simp at e
      simp [startE, e, eqI, bl, callEnd, EV.out, tk]
    · obtain ⟨m, rfl⟩ : ∃ m, n = m + 1 := ⟨n - 1, by omega⟩
      simp only [ftL, faC, faN, fw_near, f_pD ps m (by omega), Bool.and_self]
  · obtain ⟨x, Y2, hx, nx2, e2⟩ := s_pick (n := n) hp1 oddL (by decide) (by decide)
    refine ⟨.dat x, x, Y2, ?_, nx.trans nx2, .inl rfl, oddL_ok x hx⟩
    have tk2 := tk_of (nx.trans nx2)
    simp only [oddL] at e2
    generalize pD ps = pp at *
    simp at e
    simp [startE, e, eqI, lm7, e2, callEnd, EV.out, tk2]
end
end K51
set_option maxHeartbeats 0
/-! k51: bent tests. -/
namespace K51
open VM Law
open L2 (atI ixN)
theorem mem_dl {x : Int} {l : List Int} (h : x ∈ l.dropLast) : x ∈ l := (List.dropLast_sublist l).subset h
theorem lm12 : (12 ≤ LIM) = True := eq_true (by decide)
theorem lm10 : (10 ≤ LIM) = True := eq_true (by decide)
theorem sl1 (w p s a b : D) : opSl (.tup [w, p, s, a, b]) none (some 1) = some (.dat (.tup [w])) := rfl
theorem sl2 (w p s a b : D) : opSl (.tup [w, p, s, a, b]) none (some 2) = some (.dat (.tup [w, p])) := rfl
theorem sl3 (w p s a b : D) : opSl (.tup [w, p, s, a, b]) none (some 3) = some (.dat (.tup [w, p, s])) := rfl
theorem sl4 (w p s a b : D) : opSl (.tup [w, p, s, a, b]) none (some 4) = some (.dat (.tup [w, p, s, a])) := rfl
theorem sr1 (w p s a b : D) : opSl (.tup [w, p, s, a, b]) (some 1) none = some (.dat (.tup [p, s, a, b])) := rfl
theorem sr2 (w p s a b : D) : opSl (.tup [w, p, s, a, b]) (some 2) none = some (.dat (.tup [s, a, b])) := rfl
theorem sr3 (w p s a b : D) : opSl (.tup [w, p, s, a, b]) (some 3) none = some (.dat (.tup [a, b])) := rfl
theorem dom_snoc {p : List Int} (h : okp p = true) {i : Int} (h0 : 0 ≤ i) (h2 : i ≤ 2) : inDom (p ++ [i]) = true := by
  cases p with
  | nil => cases h
  | cons a r =>
    simp only [okp, Bool.and_eq_true, decide_eq_true_eq, List.all_eq_true] at h
    obtain ⟨⟨⟨h1, h2⟩, h3⟩, h4⟩ := h
    simp only [List.cons_append, inDom, Bool.and_eq_true, decide_eq_true_eq, List.all_eq_true, List.length_append, List.length_singleton]
    refine ⟨⟨⟨h1, by omega⟩, fun x hx => ?_⟩, by omega⟩
    rcases List.mem_append.mp hx with hx | hx
    · have := h3 x hx; omega
    · rw [List.mem_singleton.mp hx]; omega
theorem dom_init {p : List Int} (h : okp p = true) : p.dropLast = [] ∨ inDom p.dropLast = true := by
  cases p with
  | nil => exact .inl rfl
  | cons a r =>
    cases r with
    | nil => exact .inl rfl
    | cons b r =>
      right
      simp only [okp, Bool.and_eq_true, decide_eq_true_eq, List.all_eq_true] at h
      obtain ⟨⟨⟨h1, h2⟩, h3⟩, h4⟩ := h
      simp only [List.dropLast_cons_of_ne_nil (by simp : b :: r ≠ []), inDom, Bool.and_eq_true, decide_eq_true_eq, List.all_eq_true, List.length_dropLast]
      refine ⟨⟨⟨h1, by omega⟩, fun x hx => ?_⟩, by omega⟩
      have := h3 x (mem_dl hx); omega
theorem dom_up {p : List Int} (h : okp p = true) (hn : p ≠ []) : inDom (p.dropLast ++ [p.getLast hn + 1]) = true := by
  cases p with
  | nil => exact absurd rfl hn
  | cons a r =>
    simp only [okp, Bool.and_eq_true, decide_eq_true_eq, List.all_eq_true] at h
    obtain ⟨⟨⟨h1, h2⟩, h3⟩, h4⟩ := h
    cases r with
    | nil =>
      simp [inDom]; omega
    | cons b r =>
      have hl := h3 ((b :: r).getLast (by simp)) (List.getLast_mem _)
      have e1 : (a :: b :: r).getLast hn = (b :: r).getLast (by simp) := by simp
      rw [e1]
      generalize (b :: r).getLast (by simp) = z at *
      simp only [List.dropLast_cons_of_ne_nil (by simp : b :: r ≠ []), List.cons_append, inDom, Bool.and_eq_true, decide_eq_true_eq, List.all_eq_true, List.length_append, List.length_dropLast, List.length_singleton]
      simp only [List.length_cons] at h4 ⊢
      refine ⟨⟨⟨h1, by omega⟩, fun x hx => ?_⟩, by omega⟩
      rcases List.mem_append.mp hx with hx | hx
      · have := h3 x (mem_dl hx); omega
      · rw [List.mem_singleton.mp hx]; omega
def oddS : List D := [.int 1000, .int (-1000), .bl true, .non, .str "a", .tup [.str "a", .int 9], .tup [.str "zz1", .int 0], .tup [.str "A", .int 0], .tup [.str "a", .bl true], .lst [.str "a", .int 0], .tup [.str "a"], .tup [.int 0]]
theorem oddS_ok : ∀ x ∈ oddS, pOk x = true ∧ sOk x = true ∧ ∀ n, 3 ≤ n → fits n x = true := by
  intro x hx
  have up : ∀ (k : Fin 6) (y : D), (∀ n, fits n y = true) → ∀ n, 3 ≤ n → fits n (.tup [.str (nm k), y]) = true := fun k y hy n hn => by
    obtain ⟨m, rfl⟩ : ∃ m, n = m + 1 := ⟨n - 1, by omega⟩
    simp only [ftT, faC, faN, fits_nm, hy, Bool.and_self]
  have us : ∀ (k : Fin 6) (y : D), (∀ n, fits n y = true) → pOk (.tup [.str (nm k), y]) = true ∧ sOk (.tup [.str (nm k), y]) = true := fun k y hy => by
    refine ⟨?_, by simp only [sOk, nmI_nm, Option.isSome_some]⟩
    have : cts [.str (nm k), y] = none := by simp only [cts]
    simp only [pOk, this, Bool.and_true, Bool.and_eq_true, decide_eq_true_eq]
    exact ⟨up k y hy 64 (by decide), by simp⟩
  simp only [oddS, List.mem_cons, List.not_mem_nil, or_false] at hx
  rcases hx with rfl | rfl | rfl | rfl | rfl | rfl | rfl | rfl | rfl | rfl | rfl | rfl
  · exact ⟨rfl, rfl, fun n _ => f_int _ n⟩
  · exact ⟨rfl, rfl, fun n _ => f_int _ n⟩
  · exact ⟨rfl, rfl, fun n _ => f_bl _ n⟩
  · exact ⟨rfl, rfl, fun n _ => f_non n⟩
  · exact ⟨rfl, rfl, fun n _ => fits_nm 0 n⟩
  · exact ⟨(us 0 _ (f_int 9)).1, (us 0 _ (f_int 9)).2, up 0 _ (f_int 9)⟩
  · exact ⟨(us 4 _ (f_int 0)).1, (us 4 _ (f_int 0)).2, up 4 _ (f_int 0)⟩
  · exact ⟨(us 5 _ (f_int 0)).1, (us 5 _ (f_int 0)).2, up 5 _ (f_int 0)⟩
  · exact ⟨(us 0 _ (f_bl true)).1, (us 0 _ (f_bl true)).2, up 0 _ (f_bl true)⟩
  · refine ⟨rfl, rfl, fun n hn => ?_⟩
    obtain ⟨m, rfl⟩ : ∃ m, n = m + 1 := ⟨n - 1, by omega⟩
    simp only [ftL, faC, faN, f_int, show fits m (.str "a") = true from fits_nm 0 m, Bool.and_self]
  · have f1 : ∀ n, 3 ≤ n → fits n (.tup [.str "a"]) = true := fun n hn => by
      obtain ⟨m, rfl⟩ : ∃ m, n = m + 1 := ⟨n - 1, by omega⟩
      simp only [ftT, faC, faN, show fits m (.str "a") = true from fits_nm 0 m, Bool.and_self]
    refine ⟨?_, rfl, f1⟩
    have : cts [.str "a"] = none := by simp only [cts]
    simp only [pOk, this, f1 64 (by decide), Bool.and_true, Bool.true_and, decide_eq_true_eq]
    simp
  · have e : D.tup [.int 0] = pD [0] := rfl
    rw [e]
    exact ⟨pOk_p (by decide), sOk_p (by simp), fun n hn => f_pD _ n (by omega)⟩
def oddW : List D := [.str "as", .non, .int 0, .bl true]
theorem oddW_ok : ∀ x ∈ oddW, RR 1 1 x := by
  intro x hx
  simp only [oddW, List.mem_cons, List.not_mem_nil, or_false] at hx
  rcases hx with rfl | rfl | rfl | rfl
  · exact .other rfl (fun n _ => fits_wd 4 n) (Nat.le_refl _) (Nat.le_refl _)
  · exact .other rfl (fun n _ => f_non n) (Nat.le_refl _) (Nat.le_refl _)
  · exact .other rfl (fun n _ => f_int 0 n) (Nat.le_refl _) (Nat.le_refl _)
  · exact .other rfl (fun n _ => f_bl true n) (Nat.le_refl _) (Nat.le_refl _)
section
variable {n k : Nat} {X : Sto}
theorem l_btest {κ : Fin 5} {p : List Int} {S A B : D} {da ca db cb : Nat} (hκ : κ = 1 ∨ κ = 2) (okp1 : okp p = true) (hS : pOk S = true) (sS : sOk S = true) (fS : ∀ n, 3 ≤ n → fits n S = true) (rA : RR da ca A) (rB : RR db cb B) (hd50 : 1 + max da db ≤ 50) (hp : PotAt X k) :
    ∃ (ev : EV) (v : D) (Y : Sto), VM.run T (n + 3) 35 [.cel k, .dat (.tup [.str (wd κ), pD p, S, A, B])] X = .ok ev Y ∧ Nxt X Y k ∧ EvV ev v ∧ RR (1 + max da db) (1 + ca + cb) v := by
  rw [run_at (nl := 4) (b := P__law_bent_test) (by rfl)]
  unfold P__law_bent_test
  obtain ⟨d, Y, hd, nx, e⟩ := s_draw (n := n + 1) hp 12 (by decide) (by decide)
  have hp1 := nx.pot hp.lt
  have tk := tk_of nx
  have hw := wOk_wd κ
  have fw := fits_wd κ
  have hP := pOk_p okp1
  have fP : ∀ n, 3 ≤ n → fits n (pD p) = true := fun n hn => f_pD p n (by omega)
  obtain ⟨p0, pn, pl, pdm⟩ := okp_ints okp1
  have dd1 : 1 + max da db ≤ 1 + max da db := Nat.le_refl _
  have cc1 : 1 + ca + cb ≤ 1 + ca + cb := Nat.le_refl _
  have i0 : opIx (.tup [.str (wd κ), pD p, S, A, B]) (.int 0) = some (.dat (.str (wd κ))) := ix0
  have i1 : opIx (.tup [.str (wd κ), pD p, S, A, B]) (.int 1) = some (.dat (pD p)) := ix1
  have i3 : opIx (.tup [.str (wd κ), pD p, S, A, B]) (.int 3) = some (.dat A) := ix3
  have i4 : opIx (.tup [.str (wd κ), pD p, S, A, B]) (.int 4) = some (.dat B) := ix4
  have s1 := sl1 (.str (wd κ)) (pD p) S A B
  have s2 := sl2 (.str (wd κ)) (pD p) S A B
  have s3 := sl3 (.str (wd κ)) (pD p) S A B
  have s4 := sl4 (.str (wd κ)) (pD p) S A B
  have r1 := sr1 (.str (wd κ)) (pD p) S A B
  have r2 := sr2 (.str (wd κ)) (pD p) S A B
  have r3 := sr3 (.str (wd κ)) (pD p) S A B
  have j1 : ∀ x y : D, opBin .Add (.tup [x]) (.tup [y]) = some (.dat (.tup [x, y])) := fun x y => addTup [_] [_] (by simp)
  have j23 : ∀ x y : D, opBin .Add (.tup [x, y]) (.tup [S, A, B]) = some (.dat (.tup [x, y, S, A, B])) := fun x y => addTup [_, _] [_, _, _] (by simp)
  -- one with another path
  have other : ∀ P' : D, pOk P' = true → (∀ n, 3 ≤ n → fits n P' = true) → RR (1 + max da db) (1 + ca + cb) (.tup [.str (wd κ), P', S, A, B]) := fun P' h1 h2 => .node hw fw h1 h2 hS sS fS rA rB dd1 (by omega) cc1
  have hc : d = 0 ∨ d = 1 ∨ d = 2 ∨ d = 3 ∨ d = 4 ∨ d = 5 ∨ d = 6 ∨ d = 7 ∨ d = 8 ∨ d = 9 ∨ d = 10 ∨ d = 11 := by omega
  have ng : (eNeg (eC (.int 1)) : SE) = fun F ρ X => .ok (.dat (.int (-1))) X := by rfl
  rcases hc with rfl | rfl | rfl | rfl | rfl | rfl | rfl | rfl | rfl | rfl | rfl | rfl
  · have ad := addT p [0] (by simp; omega)
    have p4 : pD [0] = .tup [.int 0] := rfl
    rw [p4] at ad
    refine ⟨.dat (.tup [.str (wd κ), pD (p ++ [0]), S, A, B]), _, Y, ?_, nx, .inl rfl, other _ (pOk_of (fun i hi => ?_) (by simp; omega) (.inr (dom_snoc okp1 (by decide) (by decide)))) fun n hn => f_pD _ n (by omega)⟩
    · generalize pD (p ++ [0]) = p2 at *
      generalize pD p = pp at *
      generalize D.tup [.str (wd κ), pp, S, A, B] = dd at *
      simp at e
      simp [startE, e, eqI, s1, oSome, oNone, i1, ad, r2, j1, j23, callEnd, EV.out, tk]
    · rcases List.mem_append.mp hi with hi | hi
      · exact p0 i hi
      · rw [List.mem_singleton.mp hi]; decide
  · have bl : bList [pD p] = some (.new (.lst (p.map .int))) := rfl
    refine ⟨.dat (.tup [.str (wd κ), .lst (p.map .int), S, A, B]), _, Y, ?_, nx, .inl rfl, other _ rfl fun n hn => f_lits p n (by omega)⟩
    generalize pD p = pp at *
    generalize D.tup [.str (wd κ), pp, S, A, B] = dd at *
    simp at e
    simp [startE, e, eqI, s1, oSome, oNone, i1, bl, r2, j1, j23, callEnd, EV.out, tk]
  · have cb := cut_but (p.map .int)
    have db' : (p.map D.int).dropLast = p.dropLast.map D.int := by rw [List.map_dropLast]
    rw [db'] at cb
    have cb : opSl (pD p) none (some (-1)) = some (.dat (pD p.dropLast)) := cb
    refine ⟨.dat (.tup [.str (wd κ), pD p.dropLast, S, A, B]), _, Y, ?_, nx, .inl rfl, other _ (pOk_of (fun i hi => p0 i (mem_dl hi)) (by simp; omega) (dom_init okp1)) fun n hn => f_pD _ n (by omega)⟩
    generalize pD p.dropLast = p2 at *
    generalize pD p = pp at *
    generalize D.tup [.str (wd κ), pp, S, A, B] = dd at *
    simp at e
    simp [startE, e, eqI, s1, ng, oSome, oNone, i1, cb, r2, j1, j23, callEnd, EV.out, tk]
  · have cu := cut_one (p.map .int)
    have cu : opSl (pD p) (some 1) none = some (.dat (.tup (p.map D.int).tail)) := cu
    have ad : opBin .Add (.tup [.bl true]) (.tup (p.map D.int).tail) = some (.dat (.tup (.bl true :: (p.map D.int).tail))) := addTup [_] _ (by simp; omega)
    have ft1 : ∀ n, 3 ≤ n → fits n (.tup (.bl true :: (p.map D.int).tail)) = true := fun n hn => by
      obtain ⟨m, rfl⟩ : ∃ m, n = m + 1 := ⟨n - 1, by omega⟩
      rw [← List.map_tail]
      simp only [ftT, faC, f_bl, fits_is, Bool.and_self]
    refine ⟨.dat (.tup [.str (wd κ), .tup (.bl true :: (p.map D.int).tail), S, A, B]), _, Y, ?_, nx, .inl rfl, other _ ?_ ft1⟩
    · generalize (p.map D.int).tail = p2 at *
      generalize pD p = pp at *
      generalize D.tup [.str (wd κ), pp, S, A, B] = dd at *
      simp at e
      simp [startE, e, eqI, s1, oSome, oNone, i1, cu, ad, r2, j1, j23, callEnd, EV.out, tk]
    · have : cts (.bl true :: (p.map D.int).tail) = none := by simp only [cts]
      simp only [pOk, this, ft1 64 (by decide), Bool.and_true, Bool.true_and, decide_eq_true_eq]
      simp; omega
  · have cb := cut_but (p.map .int)
    have db' : (p.map D.int).dropLast = p.dropLast.map D.int := by rw [List.map_dropLast]
    rw [db'] at cb
    have cb : opSl (pD p) none (some (-1)) = some (.dat (pD p.dropLast)) := cb
    have il : opIx (pD p) (.int (-1)) = some (.dat (.int (p.getLast pn))) := last_ix p pn
    have ad := addT p.dropLast [p.getLast pn + 1] (by simp; omega)
    have p4 : pD [p.getLast pn + 1] = .tup [.int (p.getLast pn + 1)] := rfl
    rw [p4] at ad
    have lp0 := p0 _ (List.getLast_mem pn)
    refine ⟨.dat (.tup [.str (wd κ), pD (p.dropLast ++ [p.getLast pn + 1]), S, A, B]), _, Y, ?_, nx, .inl rfl, other _ (pOk_of (fun i hi => ?_) (by simp; omega) (.inr (dom_up okp1 pn))) fun n hn => f_pD _ n (by omega)⟩
    · generalize pD (p.dropLast ++ [p.getLast pn + 1]) = p3 at *
      generalize pD p.dropLast = p2 at *
      generalize p.getLast pn = z at *
      generalize pD p = pp at *
      generalize D.tup [.str (wd κ), pp, S, A, B] = dd at *
      simp at e
      simp [startE, e, eqI, s1, ng, oSome, oNone, i1, cb, il, addI, ad, r2, j1, j23, callEnd, EV.out, tk]
    · rcases List.mem_append.mp hi with hi | hi
      · exact p0 i (mem_dl hi)
      · rw [List.mem_singleton.mp hi]; omega
  · -- the other word
    have wi := w_is κ
    have j14 : ∀ x : D, opBin .Add (.tup [x]) (.tup [pD p, S, A, B]) = some (.dat (.tup [x, pD p, S, A, B])) := fun x => addTup [_] [_, _, _, _] (by simp)
    rcases hκ with rfl | rfl
    · refine ⟨.dat (.tup [.str "same", pD p, S, A, B]), _, Y, ?_, nx, .inl rfl, .node (wOk_wd 2) (fits_wd 2) hP fP hS sS fS rA rB dd1 (by omega) cc1⟩
      have wi : opCmp .Eq (.str (wd 1)) (.str "is") = some true := wi
      generalize pD p = pp at *
      generalize D.tup [.str (wd 1), pp, S, A, B] = dd at *
      simp at e
      simp [startE, e, eqI, i0, wi, oSome, oNone, r1, j14, callEnd, EV.out, tk]
    · refine ⟨.dat (.tup [.str "is", pD p, S, A, B]), _, Y, ?_, nx, .inl rfl, .node (wOk_wd 1) (fits_wd 1) hP fP hS sS fS rA rB dd1 (by omega) cc1⟩
      have wi : opCmp .Eq (.str (wd 2)) (.str "is") = some false := wi
      generalize pD p = pp at *
      generalize D.tup [.str (wd 2), pp, S, A, B] = dd at *
      simp at e
      simp [startE, e, eqI, i0, wi, oSome, oNone, r1, j14, callEnd, EV.out, tk]
  · have j32 : opBin .Add (.tup [.str (wd κ), pD p, S]) (.tup [B, A]) = some (.dat (.tup [.str (wd κ), pD p, S, B, A])) := addTup [_, _, _] [_, _] (by simp)
    refine ⟨.dat (.tup [.str (wd κ), pD p, S, B, A]), _, Y, ?_, nx, .inl rfl, .node hw fw hP fP hS sS fS rB rA (by omega) (by omega) (by omega)⟩
    generalize pD p = pp at *
    generalize D.tup [.str (wd κ), pp, S, A, B] = dd at *
    simp at e
    simp [startE, e, eqI, oSome, oNone, s3, i3, i4, j32, callEnd, EV.out, tk]
  · refine ⟨.dat (.tup [.str (wd κ), pD p, S, A]), _, Y, ?_, nx, .inl rfl, .tup (by simp) (by simp) hw (by simp) (fun n hn => ?_) (by omega) (by omega) (by omega)⟩
    · generalize pD p = pp at *
      generalize D.tup [.str (wd κ), pp, S, A, B] = dd at *
      simp at e
      simp [startE, e, eqI, oSome, oNone, s4, callEnd, EV.out, tk]
    · obtain ⟨m, rfl⟩ : ∃ m, n = m + 1 := ⟨n - 1, by omega⟩
      simp only [ftT, faC, faN, fw, fP m (by omega), fS m (by omega), rA.f m (by omega), Bool.and_self]
  · have bl : bList [.tup [.str (wd κ), pD p, S, A, B]] = some (.new (.lst [.str (wd κ), pD p, S, A, B])) := rfl
    refine ⟨.new (.lst [.str (wd κ), pD p, S, A, B]), _, Y, ?_, nx, .inr ⟨_, rfl, rfl⟩, ⟨rfl, fun n hn => ?_, by show 1 ≤ _; omega, by show 1 ≤ _; omega⟩⟩
    · generalize pD p = pp at *
      generalize D.tup [.str (wd κ), pp, S, A, B] = dd at *
      simp at e
      simp [startE, e, eqI, bl, callEnd, EV.out, tk]
    · obtain ⟨m, rfl⟩ : ∃ m, n = m + 1 := ⟨n - 1, by omega⟩
      simp only [ftL, faC, faN, fw, fP m (by omega), fS m (by omega), rA.f m (by omega), rB.f m (by omega), Bool.and_self]
  · have j51 : opBin .Add (.tup [.str (wd κ), pD p, S, A, B]) (.tup [.non]) = some (.dat (.tup [.str (wd κ), pD p, S, A, B, .non])) := addTup [_, _, _, _, _] [_] (by simp)
    refine ⟨.dat (.tup [.str (wd κ), pD p, S, A, B, .non]), _, Y, ?_, nx, .inl rfl, .tup (by simp) (by simp) hw (by simp) (fun n hn => ?_) (by omega) (by omega) (by omega)⟩
    · generalize pD p = pp at *
      generalize D.tup [.str (wd κ), pp, S, A, B] = dd at *
      simp at e
      simp [startE, e, eqI, j51, callEnd, EV.out, tk]
    · obtain ⟨m, rfl⟩ : ∃ m, n = m + 1 := ⟨n - 1, by omega⟩
      simp only [ftT, faC, faN, fw, f_non, fP m (by omega), fS m (by omega), rA.f m (by omega), rB.f m (by omega), Bool.and_self]
  · obtain ⟨d2, Y2, hd2, nx2, e2⟩ := s_draw (n := n + 1) hp1 2 (by decide) (by decide)
    have hp2 := nx2.pot hp1.lt
    have q2 := dr_eq0 d2
    by_cases c2 : d2 = 0
    · subst c2
      obtain ⟨x, Y3, hx, nx3, e3⟩ := s_pick (n := n) hp2 oddW (by decide) (by decide)
      have nn := (nx.trans nx2).trans nx3
      refine ⟨.dat x, x, Y3, ?_, nn, .inl rfl, (oddW_ok x hx).mono (by omega) (by omega)⟩
      have tk3 := tk_of nn
      simp only [oddW] at e3
      generalize pD p = pp at *
      generalize D.tup [.str (wd κ), pp, S, A, B] = dd at *
      simp at e e2 q2
      simp [startE, e, eqI, e2, q2, e3, callEnd, EV.out, tk3]
    · have nn := nx.trans nx2
      have tk3 := tk_of nn
      have q2 : opCmp .Eq (.int (d2 : Nat)) (.int 0) = some false := by rw [q2]; simp [c2]
      have j14 : opBin .Add (.tup [.non]) (.tup [pD p, S, A, B]) = some (.dat (.tup [.non, pD p, S, A, B])) := addTup [_] [_, _, _, _] (by simp)
      refine ⟨.dat (.tup [.non, pD p, S, A, B]), _, Y2, ?_, nn, .inl rfl, .node rfl f_non hP fP hS sS fS rA rB dd1 (by omega) cc1⟩
      generalize pD p = pp at *
      generalize D.tup [.str (wd κ), pp, S, A, B] = dd at *
      simp at e
      simp [startE, e, e2, q2, eqI, oSome, oNone, r1, j14, callEnd, EV.out, tk3]
  · obtain ⟨x, Y2, hx, nx2, e2⟩ := s_pickC (n := n) (k := k) (j := Y.length) (X := Y ++ [cL oddS]) (xs := oddS) hp1.app (by simp) (by have := hp1.lt; omega) (by decide) (by decide)
    obtain ⟨Y2, rfl, nx2b⟩ := nx2.app hp1.lt
    obtain ⟨x1, x2, x3⟩ := oddS_ok x hx
    have nn := nx.trans nx2b
    have tk3 : List.take X.length (Y2 ++ [cL oddS]) = Y2 := by rw [List.take_append_of_le_length (by rw [nn.len]; exact Nat.le_refl _)]; exact tk_of nn
    have j22 : ∀ x : D, opBin .Add (.tup [.str (wd κ), pD p]) (.tup [x]) = some (.dat (.tup [.str (wd κ), pD p, x])) := fun x => addTup [_, _] [_] (by simp)
    have j32 : ∀ x : D, opBin .Add (.tup [.str (wd κ), pD p, x]) (.tup [A, B]) = some (.dat (.tup [.str (wd κ), pD p, x, A, B])) := fun x => addTup [_, _, _] [_, _] (by simp)
    have ng2 : (eNeg (eC (.int 1000)) : SE) = fun F ρ X => .ok (.dat (.int (-1000))) X := by rfl
    refine ⟨.dat (.tup [.str (wd κ), pD p, x, A, B]), _, Y2, ?_, nn, .inl rfl, .node hw fw hP fP x1 x2 x3 rA rB dd1 (by omega) cc1⟩
    simp only [oddS, cL] at *
    generalize pD p = pp at *
    generalize D.tup [.str (wd κ), pp, S, A, B] = dd at *
    simp at e
    simp [startE, e, eqI, oSome, oNone, ng2, lm12, e2, s2, r3, j22, j32, callEnd, EV.out, tk3]
theorem bent_go {m : Nat} {κ : Fin 5} {p : List Int} {S : D} {a b : Tr} (hκ : κ = 1 ∨ κ = 2) (okp1 : okp p = true) (hS : pOk S = true) (sS : sOk S = true) (fS : ∀ n, 3 ≤ n → fits n S = true) (oa : okT a = true) (ob : okT b = true) (h40 : 1 + max (dpt a) (dpt b) ≤ 40) (hp : PotAt X k)
    (iha : ∀ X : Sto, dpt a ≤ m → okT a = true → dpt a ≤ 40 → PotAt X k → ∃ (ev : EV) (v : D) (Y : Sto), VM.run T (n + 4 + m) 36 [.cel k, .dat a.d] X = .ok ev Y ∧ Nxt X Y k ∧ EvV ev v ∧ RR (dpt a) (cnt a) v)
    (ihb : ∀ X : Sto, dpt b ≤ m → okT b = true → dpt b ≤ 40 → PotAt X k → ∃ (ev : EV) (v : D) (Y : Sto), VM.run T (n + 4 + m) 36 [.cel k, .dat b.d] X = .ok ev Y ∧ Nxt X Y k ∧ EvV ev v ∧ RR (dpt b) (cnt b) v) (hm : max (dpt a) (dpt b) ≤ m) :
    ∃ (ev : EV) (v : D) (Y : Sto), VM.run T (n + 4 + (m + 1)) 36 [.cel k, .dat (.tup [.str (wd κ), pD p, S, a.d, b.d])] X = .ok ev Y ∧ Nxt X Y k ∧ EvV ev v ∧ RR (1 + max (dpt a) (dpt b)) (1 + cnt a + cnt b) v := by
  rw [show n + 4 + (m + 1) = (n + 4 + m) + 1 by omega, run_at (nl := 3) (b := P__law_bent) (by rfl)]
  unfold P__law_bent
  have rA := RR.tr oa (by omega)
  have rB := RR.tr ob (by omega)
  have hw := wOk_wd κ
  have fw := fits_wd κ
  have hP := pOk_p okp1
  have fP : ∀ n, 3 ≤ n → fits n (pD p) = true := fun n hn => f_pD p n (by omega)
  have i0 : opIx (.tup [.str (wd κ), pD p, S, a.d, b.d]) (.int 0) = some (.dat (.str (wd κ))) := ix0
  have i3 : opIx (.tup [.str (wd κ), pD p, S, a.d, b.d]) (.int 3) = some (.dat a.d) := ix3
  have i4 : opIx (.tup [.str (wd κ), pD p, S, a.d, b.d]) (.int 4) = some (.dat b.d) := ix4
  have s3 := sl3 (.str (wd κ)) (pD p) S a.d b.d
  have s4 := sl4 (.str (wd κ)) (pD p) S a.d b.d
  have q : opCmp .Eq (.str (wd κ)) (.str "nearest") = some false := by rcases hκ with rfl | rfl <;> decide +kernel
  obtain ⟨d, Y, hd, nx, e⟩ := s_draw (n := n + 3 + m) hp 3 (by decide) (by decide)
  rw [show n + 3 + m + 1 = n + 4 + m by omega] at e
  have hp1 := nx.pot hp.lt
  have hc : d = 0 ∨ d = 1 ∨ d = 2 := by omega
  rcases hc with rfl | rfl | rfl
  · obtain ⟨ev, v, Y2, e2, nx2, ee, rr⟩ := l_btest (n := n + 1 + m) (k := k) hκ okp1 hS sS fS rA rB (by omega) hp1
    rw [show n + 1 + m + 3 = n + 4 + m by omega] at e2
    have nn := nx.trans nx2
    have tk := tk_of nn
    refine ⟨ev, v, Y2, ?_, nn, ee, rr⟩
    generalize D.tup [.str (wd κ), pD p, S, a.d, b.d] = dd at *
    simp at e
    rcases ee with rfl | ⟨L, rfl, rfl⟩
    · simp [startE, i0, q, e, eqI, e2, callEnd, EV.out, tk]
    · simp [startE, i0, q, e, eqI, e2, callEnd, EV.out, tk]
  · obtain ⟨ev, v, Y2, e2, nx2, ee, rr⟩ := iha Y (by omega) oa (by omega) hp1
    have nn := nx.trans nx2
    have tk := tk_of nn
    have fz := ee.frz Y2
    have j32 : opBin .Add (.tup [.str (wd κ), pD p, S]) (.tup [v, b.d]) = some (.dat (.tup [.str (wd κ), pD p, S, v, b.d])) := addTup [_, _, _] [_, _] (by simp)
    refine ⟨.dat (.tup [.str (wd κ), pD p, S, v, b.d]), _, Y2, ?_, nn, .inl rfl, .node hw fw hP fP hS sS fS rr rB (Nat.le_refl _) (by omega) (Nat.le_refl _)⟩
    generalize hdd : D.tup [.str (wd κ), pD p, S, a.d, b.d] = dd at *
    generalize a.d = ad at *
    generalize b.d = bd at *
    generalize pD p = pp at *
    simp at e
    simp [startE, i0, q, e, eqI, oSome, oNone, s3, i3, i4, e2, fz, j32, callEnd, EV.out, tk]
  · obtain ⟨ev, v, Y2, e2, nx2, ee, rr⟩ := ihb Y (by omega) ob (by omega) hp1
    have nn := nx.trans nx2
    have tk := tk_of nn
    have fz := ee.frz Y2
    have j41 : opBin .Add (.tup [.str (wd κ), pD p, S, a.d]) (.tup [v]) = some (.dat (.tup [.str (wd κ), pD p, S, a.d, v])) := addTup [_, _, _, _] [_] (by simp)
    refine ⟨.dat (.tup [.str (wd κ), pD p, S, a.d, v]), _, Y2, ?_, nn, .inl rfl, .node hw fw hP fP hS sS fS rA rr (Nat.le_refl _) (by omega) (Nat.le_refl _)⟩
    generalize hdd : D.tup [.str (wd κ), pD p, S, a.d, b.d] = dd at *
    generalize a.d = ad at *
    generalize b.d = bd at *
    generalize pD p = pp at *
    simp at e
    simp [startE, i0, q, e, eqI, oSome, oNone, s4, i4, e2, fz, j41, callEnd, EV.out, tk]
theorem l_bent : ∀ (m : Nat) (t : Tr) (X : Sto), dpt t ≤ m → okT t = true → dpt t ≤ 40 → PotAt X k → ∃ (ev : EV) (v : D) (Y : Sto), VM.run T (n + 4 + m) 36 [.cel k, .dat t.d] X = .ok ev Y ∧ Nxt X Y k ∧ EvV ev v ∧ RR (dpt t) (cnt t) v
  | 0, t, X, hd, _, _, _ => by have := dpt_pos t; omega
  | m + 1, .lf ps, X, hd, ok, _, hp => by
    rw [show n + 4 + (m + 1) = (n + 4 + m) + 1 by omega, run_at (nl := 3) (b := P__law_bent) (by rfl)]
    unfold P__law_bent
    obtain ⟨ev, v, Y, e, nx, ee, rr⟩ := l_bleaf (n := n + 1 + m) (k := k) ok hp
    rw [show n + 1 + m + 3 = n + 4 + m by omega] at e
    have tk := tk_of nx
    have dl : (Tr.lf ps).d = .tup [.str "nearest", pD ps] := rfl
    rw [dl] at e ⊢
    have i0 : opIx (.tup [.str "nearest", pD ps]) (.int 0) = some (.dat (.str "nearest")) := ix0
    have q : opCmp .Eq (.str "nearest") (.str "nearest") = some true := w_near 0
    refine ⟨ev, v, Y, ?_, nx, ee, rr⟩
    generalize D.tup [.str "nearest", pD ps] = dd at *
    rcases ee with rfl | ⟨L, rfl, rfl⟩
    · simp [startE, i0, q, e, callEnd, EV.out, tk]
    · simp [startE, i0, q, e, callEnd, EV.out, tk]
  | m + 1, .is p s a b, X, hd, ok, h40, hp => by
    simp only [okT, Bool.and_eq_true] at ok
    obtain ⟨h1, h2, h3, h4⟩ := ok
    obtain ⟨s1, s2⟩ := pOk_s h2
    simp only [dpt] at hd h40
    exact bent_go (κ := 1) (.inl rfl) h1 s1 s2 (fun n hn => by
      obtain ⟨m, rfl⟩ : ∃ m, n = m + 1 := ⟨n - 1, by omega⟩
      exact fits_s h2 m) h3 h4 h40 hp (l_bent m a) (l_bent m b) (by omega)
  | m + 1, .same p q a b, X, hd, ok, h40, hp => by
    simp only [okT, Bool.and_eq_true] at ok
    obtain ⟨h1, h2, h3, h4⟩ := ok
    have l := (okp_ints h2).2.2.1
    simp only [dpt] at hd h40
    exact bent_go (κ := 2) (.inr rfl) h1 (pOk_p h2) (sOk_p (by omega)) (fun n hn => f_pD q n (by omega)) h3 h4 h40 hp (l_bent m a) (l_bent m b) (by omega)
end
end K51
set_option maxHeartbeats 0
/-! k51: both agree. -/
namespace K51
open VM Law
open L2 (atI ixN)
theorem whL_ret {c : Env → Sto → Res Bool} {b : Env → Sto → Res SO} {ρ : Env} {μ μ1 : Sto} {v : EV} (h1 : c ρ μ = .ok true μ) (h2 : b ρ μ = .ok (.rt v) μ1) : whL c b LIM ρ μ = .ok (.rt v) μ1 := by
  rw [show LIM = 999999 + 1 from rfl]
  unfold whL
  rw [h1]
  simp only [Res.bind_ok, h2]
/-- what a slot holds: a value, or a list in a cell that is not the pot's -/
def Rv (sv : SV) (v : D) (X : Sto) : Prop := sv = .dat v ∨ ∃ j L lv, v = .lst L ∧ sv = .cel j ∧ j ≠ 0 ∧ X[j]? = some ⟨lv, .lst L⟩
theorem isTr_lst {B : Kn} {L : List D} : isTr B (.lst L) = false := by
  rw [isTr_o (by rintro w p s a b e; cases e)]; rfl
section
variable {n : Nat} {X : Sto}
theorem s_treeC {j : Nat} {L : List D} {lv : Bool} {m : Int} (h0 : 0 ≤ m) (h8 : m ≤ 8) (hj : X[j]? = some ⟨lv, .lst L⟩) : VM.run T (n + 9) 21 [.dat (.int m), .cel j] X = .ok (.dat (.bl false)) (X.set j ⟨false, .lst L⟩) := by
  have hjl : j < X.length := (List.getElem?_eq_some_iff.mp hj).1
  have e19 : VM.run T (n + 8) 19 [.dat (.int m), .cel j] X = .ok (.dat (.bl false)) (X.set j ⟨false, .lst L⟩) := by
    rw [run_at (nl := 5) (b := P_is_tree_of) (by rfl)]
    unfold P_is_tree_of
    obtain ⟨X1, hX1⟩ : ∃ X1, X1 = X.set j ⟨false, .lst L⟩ := ⟨_, rfl⟩
    have l1 : X1.length = X.length := by rw [hX1, List.length_set]
    have fz : (EV.cel j).frz X = some (.lst L, X1) := by
      simp only [EV.frz, hj]; rw [hX1]; rfl
    have w := whL_ret (c := (bCmp (opCmp .NotEq) (eV 2) (eLst (evs []))) (VM.run T (n + 7))) (b := (sSeq (sAsg (eCM aPop (eV 2) (evs [])) (gTp [gNm 3, gNm 4])) (sIf (bNot (bTru (eCall 14 (evs [eV 3])))) (sSeq (sIf (bNot (bTru (eCall 17 (evs [eV 3, eV 0, eV 4])))) (sRet (eC (.bl false))) (sPass)) (sDrop (eCM aExtend (eV 2) (evs [eLst (evs [eTup (evs [eIx (eV 3) (eC (.int 4)), eV 4]), eTup (evs [eIx (eV 3) (eC (.int 3)), eCall 18 (evs [eV 3, eV 4])])])])))) (sPass))) (VM.run T (n + 7))) (ρ := [some (.dat (.int m)), some (.cel j), some (.cel X.length), none, none]) (μ := X1 ++ [cL [.tup [.lst L, kD []]]]) (μ1 := X1 ++ [cL []]) (v := .dat (.bl false)) (by
      have v2 : (EV.cel X.length).see (X1 ++ [cL [.tup [.lst L, kD []]]]) = some (.lst [.tup [.lst L, kD []]]) := by simp [EV.see, ← l1, cL]
      have := ne_nil [.tup [.lst L, kD []]]
      simp at this
      simp [v2, this]) (by
      have e14 := s_leaf (n := n + 4) (μ := X1 ++ [cL []]) (.lst L) rfl
      have e17 := s_test (n := n) (μ := X1 ++ [cL []]) (.lst L) rfl m []
      have g0 : (X1 ++ [⟨true, .lst [.tup [.lst L, kD []]]⟩] : Sto)[X.length]? = some ⟨true, .lst [.tup [.lst L, kD []]]⟩ := by simp [← l1]
      have p0 : (X1 ++ [⟨true, .lst [.tup [.lst L, kD []]]⟩] : Sto).set X.length ⟨true, .lst []⟩ = X1 ++ [⟨true, .lst []⟩] := by simp [← l1]
      have l14 : isLf (.lst L) = false := rfl
      have l17 : isTs (bK m []) (.lst L) = false := rfl
      rw [l14] at e14
      rw [l17] at e17
      simp only [cL] at *
      generalize kD [] = KK at *
      simp [g0, pop1, p0, e14, e17])
    have s0 : ((sSet 2 (eLst (evs [eTup (evs [eV 1, eDictT0])]))) : SS) (VM.run T (n + 7)) (startE 5 [.dat (.int m), .cel j]) X = .ok (.nx [some (.dat (.int m)), some (.cel j), some (.cel X.length), none, none]) (X1 ++ [cL [.tup [.lst L, kD []]]]) := by
      have k0 : kD [] = .dct [] [] := rfl
      simp [startE, fz, l1, cL, k0]
    rw [xs_seq, s0]
    simp only [xs_seq, xs_while]
    rw [w]
    have tk : List.take X.length (X1 ++ [cL []]) = X1 := by rw [← l1]; simp
    rw [← hX1]
    simp [callEnd, EV.out, tk]
  rw [run_at (nl := 2) (b := P_is_tree) (by rfl)]
  unfold P_is_tree
  have e1 : VM.run T (n + 8) 20 [.dat (.int m)] X = .ok (.dat (.int m)) X := by
    rw [run_at (nl := 1) (b := P_want_tree_count) (by rfl)]
    unfold P_want_tree_count
    have e := s_isCount (n := n + 5) (μ := X) (.int m)
    have q : opCmp .Gt (.int m) (.int 8) = some false := by
      show some (decide (8 < m)) = _
      congr 1; simp; omega
    simp [isC, h0] at e
    simp [startE, e, q, callEnd, EV.out]
  have tk : List.take X.length (X.set j ⟨false, .lst L⟩) = X.set j ⟨false, .lst L⟩ := List.take_of_length_le (by simp)
  simp [startE, e1, e19, callEnd, EV.out, tk]
theorem l_soC {j : Nat} {L : List D} {lv : Bool} {m : Int} (hj : X[j]? = some ⟨lv, .lst L⟩) : VM.run T (n + 2) 37 [.dat (.int m), .cel j] X = .ok (.dat (.bl false)) X := by
  rw [run_at (nl := 2) (b := P__law_is_so) (by rfl)]
  unfold P__law_is_so
  have e : ∀ sv, VM.run T (n + 1) 30 [.cel j, sv] X = .ok (.dat (.bl false)) X := fun sv => by
    rw [run_at (nl := 3) (b := P__law_is_tree) (by rfl)]
    unfold P__law_is_tree
    have see : (EV.cel j).see X = some (.lst L) := by simp only [EV.see, hj]; rfl
    have it : isi .tuple (.lst L) = false := rfl
    simp [startE, see, it, callEnd, EV.out]
  simp [startE, e, callEnd, EV.out]
theorem l_so {m : Int} {v : D} {d : Nat} (hv : gv v = true) (hd : td v ≤ d) (h9 : d ≤ 500) : VM.run T (n + 4 + d) 37 [.dat (.int m), .dat v] X = .ok (.dat (.bl (isTr (bL [([], m)]) v))) X := by
  rw [show n + 4 + d = (n + 3 + d) + 1 by omega, run_at (nl := 2) (b := P__law_is_so) (by rfl)]
  unfold P__law_is_so
  have e := l_tree (n := n) d v [([], m)] (.dat (.lst [encL ([], m)])) X hd hv (.inl rfl) (by simp; omega)
  have el : encL ([], m) = .tup [.tup [], .int m] := rfl
  rw [el] at e
  simp [startE, e, callEnd, EV.out]
theorem agree {sv : SV} {v : D} {m : Int} (h : Rv sv v X) (hp : PotAt X 0) (hv : gv v = true) (ht : tn v ≤ 3000) (hd : td v ≤ 60) (h0 : 0 ≤ m) (h8 : m ≤ 8) :
    ∃ (b : Bool) (X' : Sto), VM.run T 98 21 [.dat (.int m), sv] X = .ok (.dat (.bl b)) X' ∧ VM.run T 98 37 [.dat (.int m), sv] X' = .ok (.dat (.bl b)) X' ∧ Rv sv v X' ∧ PotAt X' 0 ∧ sv.ev.arg = sv := by
  rcases h with rfl | ⟨j, L, lv, rfl, rfl, hj0, hj⟩
  · have e1 := s_tree (n := 89) (μ := X) h0 h8 hv ht
    have e2 := l_so (n := 34) (X := X) (m := m) hv hd (by decide)
    rw [b_first h0] at e1
    exact ⟨_, X, e1, e2, .inl rfl, hp, rfl⟩
  · have hjl : j < X.length := (List.getElem?_eq_some_iff.mp hj).1
    have e1 := s_treeC (n := 89) h0 h8 hj
    have hj2 : (X.set j ⟨false, .lst L⟩)[j]? = some ⟨false, .lst L⟩ := List.getElem?_set_self hjl
    have e2 := l_soC (n := 96) (m := m) hj2
    refine ⟨false, _, e1, e2, .inr ⟨j, L, false, rfl, rfl, hj0, hj2⟩, ?_, rfl⟩
    obtain ⟨a, b, hpp⟩ := hp
    exact ⟨a, b, by rw [List.getElem?_set_ne hj0]; exact hpp⟩
theorem rep_bl (b : Bool) : ∃ x : PySem.Str, fRepr [.bl b] = some (.dat (.str x)) := by cases b <;> exact ⟨_, rfl⟩
theorem ne_str {x : PySem.Str} : opCmp .NotEq (.str x) (.str x) = some false := by
  simp [opCmp, opEq, opEq0, txEq]
theorem isnot_tt : opCmp .IsNot (.bl true) (.bl true) = some false := by rfl
theorem isnot_ff : opCmp .IsNot (.bl false) (.bl false) = some false := by rfl
/-- one turn: a bent one -/
theorem turn_step {many : Int} {t : Tr} {o3 o4 o5 o6 : Option SV} {Y : Sto} (h0 : 0 ≤ many) (h8 : many ≤ 8) (ok : okT t = true) (hd : dpt t ≤ 31) (hc : cnt t ≤ 100) (hp : PotAt Y 0) :
    ∃ (p4 p5 : Option SV) (Y' : Sto), ((sSeq (sSet 4 (eCall 36 (evs [eV 0, eV 2]))) (sSeq (sIf (bCmp (opCmp .NotEq) (eCb fRepr (evs [eCall 21 (evs [eV 1, eV 4])])) (eCb fRepr (evs [eCall 37 (evs [eV 1, eV 4])]))) (sRet (eC (.bl false))) (sPass)) (sSeq (sSet 5 (eCall 23 (evs [eV 0, eBin .Add (eV 1) (eC (.int 1))]))) (sIf (bCmp (opCmp .NotEq) (eCb fRepr (evs [eCall 21 (evs [eV 5, eV 4])])) (eCb fRepr (evs [eCall 37 (evs [eV 5, eV 4])]))) (sRet (eC (.bl false))) (sPass))))) : SS) (VM.run T 98) [some (.cel 0), some (.dat (.int many)), some (.dat t.d), o3, o4, o5, o6] Y = .ok (.nx [some (.cel 0), some (.dat (.int many)), some (.dat t.d), o3, p4, p5, o6]) Y' ∧ PotAt Y' 0 := by
  obtain ⟨ev, v, Y1, e1, n1, ee, rr⟩ := l_bent (n := 54) (k := 0) 40 t Y (by omega) ok (by omega) hp
  simp only [show 54 + 4 + 40 = 98 from rfl] at e1
  have hp1 := n1.pot hp.lt
  have hv := rr.g
  have ht : tn v ≤ 3000 := by have := rr.n; omega
  have htd : td v ≤ 60 := by have := rr.d; omega
  -- the slot
  obtain ⟨sv, Y2, bd, rv, hp2⟩ : ∃ (sv : SV) (Y2 : Sto), ev.bnd Y1 = (sv, Y2) ∧ Rv sv v Y2 ∧ PotAt Y2 0 := by
    rcases ee with rfl | ⟨L, rfl, rfl⟩
    · exact ⟨_, _, rfl, .inl rfl, hp1⟩
    · refine ⟨_, _, rfl, .inr ⟨Y1.length, L, true, rfl, rfl, ?_, by simp⟩, hp1.app⟩
      have := hp1.lt; omega
  obtain ⟨b, Y3, e2, e3, rv3, hp3, sa⟩ := agree rv hp2 hv ht htd h0 h8
  obtain ⟨l, Y4, hl, n4, e4⟩ := s_draw (n := 97) hp3 (many + 1) (by omega) (by omega)
  simp only [show 97 + 1 = 98 from rfl] at e4
  have hp4 := n4.pot hp3.lt
  have rv4 : Rv sv v Y4 := by
    rcases rv3 with h | ⟨j, L, lv, h1, h2, h3, h4⟩
    · exact .inl h
    · obtain ⟨a, c, rfl⟩ := n4
      exact .inr ⟨j, L, lv, h1, h2, h3, by rw [List.getElem?_set_ne (Ne.symm h3)]; exact h4⟩
  obtain ⟨b2, Y5, e5, e6, rv5, hp5, _⟩ := agree (m := (l : Int)) rv4 hp4 hv ht htd (by omega) (by omega)
  obtain ⟨x1, r1⟩ := rep_bl b
  obtain ⟨x2, r2⟩ := rep_bl b2
  have a1 : opBin .Add (.int many) (.int 1) = some (.dat (.int (many + 1))) := rfl
  refine ⟨some sv, some (.dat (.int (l : Int))), Y5, ?_, hp5⟩
  have q1 := ne_str (x := x1)
  have q2 := ne_str (x := x2)
  generalize t.d = td at *
  simp [e1, bd, sa, e2, e3, r1, q1, a1, e4, e5, e6, r2, q2]
def odds : List D := [.non, .int 0, .bl true, .str "nearest", .lst [], .dic [] [], .tup [.str "nearest", .str ""]]
theorem odds_ok {m : Int} (h0 : 0 ≤ m) (h8 : m ≤ 8) : ∀ x ∈ odds, VM.run T 98 21 [.dat (.int m), .dat x] X = .ok (.dat (.bl false)) X := by
  intro x hx
  have go : gv x = true → tn x ≤ 3000 → isTr (bK m []) x = false → VM.run T 98 21 [.dat (.int m), .dat x] X = .ok (.dat (.bl false)) X := fun h1 h2 h3 => by
    have := s_tree (n := 89) (μ := X) h0 h8 h1 h2
    rw [h3] at this
    exact this
  simp only [odds, List.mem_cons, List.not_mem_nil, or_false] at hx
  rcases hx with rfl | rfl | rfl | rfl | rfl | rfl | rfl
  · exact go rfl (by decide) (by rw [isTr_o (by rintro w p s a b e; cases e)]; rfl)
  · exact go rfl (by decide) (by rw [isTr_o (by rintro w p s a b e; cases e)]; rfl)
  · exact go rfl (by decide) (by rw [isTr_o (by rintro w p s a b e; cases e)]; rfl)
  · exact go rfl (by decide) (by rw [isTr_o (by rintro w p s a b e; cases e)]; rfl)
  · exact go rfl (by decide) (by rw [isTr_o (by rintro w p s a b e; cases e)]; rfl)
  · exact go rfl (by decide) (by rw [isTr_o (by rintro w p s a b e; cases e)]; rfl)
  · have rr : RR 1 1 (.tup [.str "nearest", .str ""]) := .leaf hw_near rfl fw_near (fun n _ => fits_str (by decide +kernel) n) (Nat.le_refl _) (Nat.le_refl _)
    refine go rr.g (by decide) ?_
    rw [isTr_o (by rintro w p s a b e; cases e)]
    simp [isLf, lfP]
end
end K51
set_option maxHeartbeats 0
/-! k51: the law. -/
namespace K51
open VM Law
open L2 (atI ixN)
def manyL : List D := [.int 0, .int 1, .int 2, .int 3, .int 0, .int 1, .int 2, .int 3, .int 6, .int 8]
theorem many_ok : ∀ x ∈ manyL, ∃ m : Int, x = .int m ∧ 0 ≤ m ∧ m ≤ 8 := by
  intro x hx
  simp only [manyL, List.mem_cons, List.not_mem_nil, or_false] at hx
  rcases hx with rfl | rfl | rfl | rfl | rfl | rfl | rfl | rfl | rfl | rfl <;> exact ⟨_, rfl, by decide, by decide⟩
section
variable {X : Sto}
/-- a tree, drawn -/
theorem law_draws (hp : PotAt X 0) : ∃ (many : Int) (t : Tr) (Y : Sto), 0 ≤ many ∧ many ≤ 8 ∧ okT t = true ∧ dpt t ≤ 31 ∧ cnt t ≤ 100 ∧ isTr (bL [([], many)]) t.d = true ∧ PotAt Y 0 ∧
    ∀ R : SS, sSeq ((sSet 1 (eCall 24 (evs [eV 0, eLst (evs [eC (.int 0), eC (.int 1), eC (.int 2), eC (.int 3), eC (.int 0), eC (.int 1), eC (.int 2), eC (.int 3), eC (.int 6), eC (.int 8)])])))) (sSeq ((sSet 2 (eCall 32 (evs [eV 0, eIf (bCmp (opCmp .Gt) (eCall 23 (evs [eV 0, eC (.int 4)])) (eC (.int 0))) (eC (.int 3)) (eC (.int 5)), eLst (evs [eTup (evs [eTup (evs []), eV 1])])])))) (sSeq ((sIf (bAnd (bCmp (opCmp .Gt) (eV 1) (eC (.int 0))) (bCmp (opCmp .Eq) (eCall 23 (evs [eV 0, eC (.int 6)])) (eC (.int 0)))) (sSet 2 (eCall 33 (evs [eV 0, eV 1]))) (sPass))) R)) (VM.run T 98) [some (.cel 0), none, none, none, none, none, none] X = R (VM.run T 98) [some (.cel 0), some (.dat (.int many)), some (.dat t.d), none, none, none, none] Y := by
  obtain ⟨x, X1, hx, n1, e1⟩ := s_pick (n := 96) hp manyL (by decide) (by decide)
  simp only [show 96 + 2 = 98 from rfl, manyL] at e1
  obtain ⟨many, rfl, h0, h8⟩ := many_ok x hx
  have hp1 := n1.pot hp.lt
  obtain ⟨d, X2, hd, n2, e2⟩ := s_draw (n := 97) hp1 4 (by decide) (by decide)
  simp only [show 97 + 1 = 98 from rfl] at e2
  have hp2 := n2.pot hp1.lt
  have gt : opCmp .Gt (.int (d : Nat)) (.int 0) = some (decide (0 < d)) := by
    show some (decide ((0 : Int) < d)) = _
    congr 1
    rw [Bool.eq_iff_iff]; simp
  have el : encL ([], many) = .tup [.tup [], .int many] := rfl
  -- the tree
  have tree : ∃ (t : Tr) (X3 : Sto), VM.run T 98 32 [.cel 0, .dat (.int (if 0 < d then 3 else 5)), .dat (.lst [.tup [.tup [], .int many]])] X2 = .ok (.dat t.d) X3 ∧ Nxt X2 X3 0 ∧ okT t = true ∧ dpt t ≤ 31 ∧ cnt t ≤ 100 ∧ isTr (bL [([], many)]) t.d = true := by
    by_cases c : 0 < d
    · obtain ⟨t, Y, e, nx, o, g, c2, i⟩ := l_dtree (n := 91) (k := 0) 3 X2 [([], many)] (.dat (.lst [encL ([], many)])) 0 (by decide) (KO.first h0 h8) (.inl rfl) (by intro z; cases z) hp2
      rw [el] at e
      have h16 : (2 : Nat) ^ (3 + 1) = 16 := by decide
      refine ⟨t, Y, ?_, nx, o, by omega, by omega, i⟩
      simp only [c, if_true]
      exact e
    · obtain ⟨t, Y, e, nx, o, g, c2, i⟩ := l_dtree (n := 89) (k := 0) 5 X2 [([], many)] (.dat (.lst [encL ([], many)])) 0 (by decide) (KO.first h0 h8) (.inl rfl) (by intro z; cases z) hp2
      rw [el] at e
      have h64 : (2 : Nat) ^ (5 + 1) = 64 := by decide
      refine ⟨t, Y, ?_, nx, o, by omega, by omega, i⟩
      simp only [c, if_false]
      exact e
  obtain ⟨t, X3, e3, n3, ok, hd3, hc3, it⟩ := tree
  have hp3 := n3.pot hp2.lt
  have tI : ∀ F ρ Z, (eIf (bCmp (opCmp .Gt) (eCall 23 (evs [eV 0, eC (.int 4)])) (eC (.int 0))) (eC (.int 3)) (eC (.int 5)) : SE) F ρ Z = (eIf (bCmp (opCmp .Gt) (eCall 23 (evs [eV 0, eC (.int 4)])) (eC (.int 0))) (eC (.int 3)) (eC (.int 5)) : SE) F ρ Z := fun _ _ _ => rfl
  have g1 : opCmp .Gt (.int many) (.int 0) = some (decide (0 < many)) := rfl
  -- the first two
  have two : ∀ R : SS, sSeq ((sSet 1 (eCall 24 (evs [eV 0, eLst (evs [eC (.int 0), eC (.int 1), eC (.int 2), eC (.int 3), eC (.int 0), eC (.int 1), eC (.int 2), eC (.int 3), eC (.int 6), eC (.int 8)])])))) (sSeq ((sSet 2 (eCall 32 (evs [eV 0, eIf (bCmp (opCmp .Gt) (eCall 23 (evs [eV 0, eC (.int 4)])) (eC (.int 0))) (eC (.int 3)) (eC (.int 5)), eLst (evs [eTup (evs [eTup (evs []), eV 1])])])))) R) (VM.run T 98) [some (.cel 0), none, none, none, none, none, none] X = R (VM.run T 98) [some (.cel 0), some (.dat (.int many)), some (.dat t.d), none, none, none, none] X3 := fun R => by
    generalize t.d = td at *
    by_cases c : 0 < d
    · simp only [c, if_true, decide_true] at e3 gt
      simp [e1, lm10, e2, gt, e3]
    · simp only [c, if_false, decide_false] at e3 gt
      simp [e1, lm10, e2, gt, e3]
  have reas : ∀ a b c : SS, ∀ F ρ Z, sSeq a (sSeq b c) F ρ Z = sSeq a (sSeq b c) F ρ Z := fun _ _ _ _ _ _ => rfl
  by_cases hm : 0 < many
  · obtain ⟨l, X4, hl, n4, e4⟩ := s_draw (n := 97) hp3 6 (by decide) (by decide)
    simp only [show 97 + 1 = 98 from rfl] at e4
    have hp4 := n4.pot hp3.lt
    have q4 := dr_eq0 l
    have g1 : opCmp .Gt (.int many) (.int 0) = some true := by rw [g1]; simp [hm]
    by_cases c : l = 0
    · subst c
      obtain ⟨t2, X5, e5, n5, ok5, hd5, hc5, it5⟩ := l_long (n := 95) (k := 0) hm h8 hp4
      simp only [show 95 + 3 = 98 from rfl] at e5
      refine ⟨many, t2, X5, h0, h8, ok5, hd5, by omega, it5, n5.pot hp4.lt, fun R => ?_⟩
      rw [two]
      generalize t.d = td at *
      generalize t2.d = td2 at *
      simp at q4 e4
      simp [g1, e4, q4, e5]
    · have q4 : opCmp .Eq (.int (l : Nat)) (.int 0) = some false := by rw [q4]; simp [c]
      refine ⟨many, t, X4, h0, h8, ok, hd3, hc3, it, hp4, fun R => ?_⟩
      rw [two]
      generalize t.d = td at *
      simp [g1, e4, q4]
  · have g1 : opCmp .Gt (.int many) (.int 0) = some false := by rw [g1]; simp [hm]
    refine ⟨many, t, X3, h0, h8, ok, hd3, hc3, it, hp3, fun R => ?_⟩
    rw [two]
    generalize t.d = td at *
    simp [g1]
/-- the judgement -/
theorem law_rest {many : Int} {t : Tr} (h0 : 0 ≤ many) (h8 : many ≤ 8) (ok : okT t = true) (hd : dpt t ≤ 31) (hc : cnt t ≤ 100) (it : isTr (bL [([], many)]) t.d = true) (hp : PotAt X 0) :
    ∃ Y, ((sSeq (sIf (bOr (bCmp (opCmp .IsNot) (eCall 21 (evs [eV 1, eV 2])) (eC (.bl true))) (bCmp (opCmp .IsNot) (eCallK 21 (evs []) (evs [eV 2, eC (.int 8)]) [1, 0]) (eC (.bl true)))) (sRet (eC (.bl false))) (sPass)) (sSeq (sIf (bCmp (opCmp .NotEq) (eCb fRepr (evs [eCall 21 (evs [eC (.int 0), eV 2])])) (eCb fRepr (evs [eCall 37 (evs [eC (.int 0), eV 2])]))) (sRet (eC (.bl false))) (sPass)) (sSeq (sFor (iRange (evs [eC (.int 10)])) (gNm 3) (sSeq (sSet 4 (eCall 36 (evs [eV 0, eV 2]))) (sSeq (sIf (bCmp (opCmp .NotEq) (eCb fRepr (evs [eCall 21 (evs [eV 1, eV 4])])) (eCb fRepr (evs [eCall 37 (evs [eV 1, eV 4])]))) (sRet (eC (.bl false))) (sPass)) (sSeq (sSet 5 (eCall 23 (evs [eV 0, eBin .Add (eV 1) (eC (.int 1))]))) (sIf (bCmp (opCmp .NotEq) (eCb fRepr (evs [eCall 21 (evs [eV 5, eV 4])])) (eCb fRepr (evs [eCall 37 (evs [eV 5, eV 4])]))) (sRet (eC (.bl false))) (sPass)))))) (sSeq (sFor (iOf (eLst (evs [eC .non, eC (.int 0), eC (.bl true), eC (.str "nearest"), eLst (evs []), eDict0, eTup (evs [eC (.str "nearest"), eC (.str "")])]))) (gNm 6) (sIf (bCmp (opCmp .IsNot) (eCall 21 (evs [eV 1, eV 6])) (eC (.bl false))) (sRet (eC (.bl false))) (sPass))) (sRet (eC (.bl true))))))) : SS) (VM.run T 98) [some (.cel 0), some (.dat (.int many)), some (.dat t.d), none, none, none, none] X = .ok (.rt (.dat (.bl true))) Y := by
  have gt := gv_tr t ok (by omega)
  have tnt : tn t.d ≤ 3000 := by rw [tn_tr]; omega
  have tdt : td t.d ≤ 60 := by rw [td_tr]; omega
  have e1 := s_tree (n := 89) (μ := X) h0 h8 gt tnt
  rw [b_first h0, it] at e1
  have e2 := s_tree (n := 89) (μ := X) (many := 8) (by decide) (by decide) gt tnt
  rw [b_first (by decide), isTr_mono t (bL_le h8) it] at e2
  simp only [show 89 + 9 = 98 from rfl] at e1 e2
  obtain ⟨b, X3, e3, e4, _, hp3, _⟩ := agree (X := X) (m := 0) (.inl rfl) hp gt tnt tdt (by decide) (by decide)
  have e3' := s_tree (n := 89) (μ := X) (many := 0) (by decide) (by decide) gt tnt
  simp only [show 89 + 9 = 98 from rfl] at e3'
  have x3 : X3 = X := by rw [e3'] at e3; cases e3; rfl
  subst x3
  obtain ⟨x1, r1⟩ := rep_bl b
  have q1 := ne_str (x := x1)
  -- ten turns
  have rg := rngD 10 (by decide) (by decide)
  have lp := for_inv (enc := fun i : Nat => D.int (i : Int)) (Q := List.range 10) (F := VM.run T 98) (p := gNm 3) (b := (sSeq (sSet 4 (eCall 36 (evs [eV 0, eV 2]))) (sSeq (sIf (bCmp (opCmp .NotEq) (eCb fRepr (evs [eCall 21 (evs [eV 1, eV 4])])) (eCb fRepr (evs [eCall 37 (evs [eV 1, eV 4])]))) (sRet (eC (.bl false))) (sPass)) (sSeq (sSet 5 (eCall 23 (evs [eV 0, eBin .Add (eV 1) (eC (.int 1))]))) (sIf (bCmp (opCmp .NotEq) (eCb fRepr (evs [eCall 21 (evs [eV 5, eV 4])])) (eCb fRepr (evs [eCall 37 (evs [eV 5, eV 4])]))) (sRet (eC (.bl false))) (sPass))))))
    (fun Q' ρ Y => ∃ (o3 o4 o5 o6 : Option SV), ρ = [some (.cel 0), some (.dat (.int many)), some (.dat t.d), o3, o4, o5, o6] ∧ PotAt Y 0)
    (by
      rintro q Q' ρ Y hq ⟨o3, o4, o5, o6, rfl, hpY⟩
      obtain ⟨p4, p5, Y', e, hp'⟩ := turn_step (o3 := some (.dat (.int (q : Int)))) (o4 := o4) (o5 := o5) (o6 := o6) h0 h8 ok hd hc hpY
      exact ⟨_, Y, rfl, _, Y', e, _, _, _, _, rfl, hp'⟩)
    [some (.cel 0), some (.dat (.int many)), some (.dat t.d), none, none, none, none] X3 ⟨_, _, _, _, rfl, hp⟩
  obtain ⟨ρ', X4, e5, o3, o4, o5, o6, rfl, hp4⟩ := lp
  -- odd ones
  have lq := for_inv (enc := fun d : D => d) (Q := odds) (F := VM.run T 98) (p := gNm 6) (b := (sIf (bCmp (opCmp .IsNot) (eCall 21 (evs [eV 1, eV 6])) (eC (.bl false))) (sRet (eC (.bl false))) (sPass)))
    (fun Q' ρ Y => ∃ (o6 : Option SV), ρ = [some (.cel 0), some (.dat (.int many)), some (.dat t.d), o3, o4, o5, o6] ∧ Y = X4)
    (by
      rintro q Q' ρ Y hq ⟨o6, rfl, hY⟩
      rw [hY]
      have e := odds_ok (X := X4) h0 h8 q hq
      refine ⟨[some (.cel 0), some (.dat (.int many)), some (.dat t.d), o3, o4, o5, some (.dat q)], X4, rfl, [some (.cel 0), some (.dat (.int many)), some (.dat t.d), o3, o4, o5, some (.dat q)], X4, ?_, _, rfl, rfl⟩
      simp [e, isnot_ff])
    [some (.cel 0), some (.dat (.int many)), some (.dat t.d), o3, o4, o5, o6] X4 ⟨_, rfl, rfl⟩
  obtain ⟨ρ', X5, e6, o6', rfl, rfl⟩ := lq
  refine ⟨X5, ?_⟩
  rw [show List.map (fun d : D => d) odds = odds from List.map_id' _] at e6
  have l7 : (7 ≤ LIM) = True := eq_true (by decide)
  have rl : ((List.range 10).map fun i : Nat => D.int (i : Int)).length + 1 = (List.range 10).length + 1 := by simp
  rw [← rl] at e5
  have rg : rangeOf [.dat (.int 10)] = some (.vals ((List.range 10).map fun i : Nat => .int (i : Int))) := rg
  generalize ((List.range 10).map fun i : Nat => D.int (i : Int)) = RL at *
  have ol : odds.length + 1 = 7 + 1 := rfl
  rw [ol] at e6
  simp only [odds] at e6
  generalize hB1 : ((sSeq (sSet 4 (eCall 36 (evs [eV 0, eV 2]))) (sSeq (sIf (bCmp (opCmp .NotEq) (eCb fRepr (evs [eCall 21 (evs [eV 1, eV 4])])) (eCb fRepr (evs [eCall 37 (evs [eV 1, eV 4])]))) (sRet (eC (.bl false))) (sPass)) (sSeq (sSet 5 (eCall 23 (evs [eV 0, eBin .Add (eV 1) (eC (.int 1))]))) (sIf (bCmp (opCmp .NotEq) (eCb fRepr (evs [eCall 21 (evs [eV 5, eV 4])])) (eCb fRepr (evs [eCall 37 (evs [eV 5, eV 4])]))) (sRet (eC (.bl false))) (sPass))))) : SS) = BB1 at *
  generalize hB2 : ((sIf (bCmp (opCmp .IsNot) (eCall 21 (evs [eV 1, eV 6])) (eC (.bl false))) (sRet (eC (.bl false))) (sPass)) : SS) = BB2 at *
  generalize t.d = td at *
  simp [e1, e2, isnot_tt, eCallK, e3, e4, r1, q1, rg, e5, l7, e6]
theorem l_right (hp : PotAt X 0) : ∃ Y, VM.run T 99 38 [.cel 0] X = .ok (.dat (.bl true)) Y := by
  rw [show 99 = 98 + 1 from rfl, run_at (nl := 7) (b := P__law_right) (by rfl)]
  obtain ⟨many, t, Y, h0, h8, ok, hd, hc, it, hpY, e⟩ := law_draws hp
  obtain ⟨Z, e2⟩ := law_rest h0 h8 ok hd hc it hpY
  have hP : P__law_right = sSeq ((sSet 1 (eCall 24 (evs [eV 0, eLst (evs [eC (.int 0), eC (.int 1), eC (.int 2), eC (.int 3), eC (.int 0), eC (.int 1), eC (.int 2), eC (.int 3), eC (.int 6), eC (.int 8)])])))) (sSeq ((sSet 2 (eCall 32 (evs [eV 0, eIf (bCmp (opCmp .Gt) (eCall 23 (evs [eV 0, eC (.int 4)])) (eC (.int 0))) (eC (.int 3)) (eC (.int 5)), eLst (evs [eTup (evs [eTup (evs []), eV 1])])])))) (sSeq ((sIf (bAnd (bCmp (opCmp .Gt) (eV 1) (eC (.int 0))) (bCmp (opCmp .Eq) (eCall 23 (evs [eV 0, eC (.int 6)])) (eC (.int 0)))) (sSet 2 (eCall 33 (evs [eV 0, eV 1]))) (sPass))) ((sSeq (sIf (bOr (bCmp (opCmp .IsNot) (eCall 21 (evs [eV 1, eV 2])) (eC (.bl true))) (bCmp (opCmp .IsNot) (eCallK 21 (evs []) (evs [eV 2, eC (.int 8)]) [1, 0]) (eC (.bl true)))) (sRet (eC (.bl false))) (sPass)) (sSeq (sIf (bCmp (opCmp .NotEq) (eCb fRepr (evs [eCall 21 (evs [eC (.int 0), eV 2])])) (eCb fRepr (evs [eCall 37 (evs [eC (.int 0), eV 2])]))) (sRet (eC (.bl false))) (sPass)) (sSeq (sFor (iRange (evs [eC (.int 10)])) (gNm 3) (sSeq (sSet 4 (eCall 36 (evs [eV 0, eV 2]))) (sSeq (sIf (bCmp (opCmp .NotEq) (eCb fRepr (evs [eCall 21 (evs [eV 1, eV 4])])) (eCb fRepr (evs [eCall 37 (evs [eV 1, eV 4])]))) (sRet (eC (.bl false))) (sPass)) (sSeq (sSet 5 (eCall 23 (evs [eV 0, eBin .Add (eV 1) (eC (.int 1))]))) (sIf (bCmp (opCmp .NotEq) (eCb fRepr (evs [eCall 21 (evs [eV 5, eV 4])])) (eCb fRepr (evs [eCall 37 (evs [eV 5, eV 4])]))) (sRet (eC (.bl false))) (sPass)))))) (sSeq (sFor (iOf (eLst (evs [eC .non, eC (.int 0), eC (.bl true), eC (.str "nearest"), eLst (evs []), eDict0, eTup (evs [eC (.str "nearest"), eC (.str "")])]))) (gNm 6) (sIf (bCmp (opCmp .IsNot) (eCall 21 (evs [eV 1, eV 6])) (eC (.bl false))) (sRet (eC (.bl false))) (sPass))) (sRet (eC (.bl true)))))))))) := rfl
  have s0 : startE 7 [.cel 0] = [some (.cel 0), none, none, none, none, none, none] := rfl
  rw [hP, s0, e, e2]
  exact ⟨Z.take X.length, by simp [callEnd, EV.out]⟩
end
end K51
namespace Law
open VM
theorem law_runs (ns : List Int) (h : ns.length ≤ 63) : ∃ μ, VM.run T depth 39 [.dat (.scr ns)] [] = .ok (.dat (.bl true)) μ := by
  obtain ⟨a, b, e1⟩ := K51.s_pot (n := 98) (μ := []) ns h
  simp only [show 98 + 1 = 99 from rfl] at e1
  have hp : K51.PotAt [K51.potC a b] 0 := ⟨a, b, rfl⟩
  obtain ⟨Y, e2⟩ := K51.l_right hp
  rw [show depth = 99 + 1 from rfl, K51.run_at (nl := 1) (b := P_law) (by rfl)]
  refine ⟨[], ?_⟩
  unfold P_law
  simp [K51.potC] at e2
  simp [startE, e1, e2, callEnd, EV.out]
end Law
open PySem PySem.W PyProof.Rows
set_option maxRecDepth 100000 in
set_option maxHeartbeats 0 in
theorem PySem.Challenge.cw_nearestpattern_k51_any_value_as_tree_holds : PySem.Challenge.rw_nearestpattern_k51_any_value_as_tree.Holds := by
  w_on; o_law; k_head; (case hw => w_witness2)
  k_fill
  refine Law.walk (l := PySem.Challenge.rw_nearestpattern_k51_any_value_as_tree) rfl rfl Law.law_runs (fun w h Y => PySem.W.kIn_of Y) ?F
  case F =>
    intro w mg fa h KX G hmg
    refine' Law.all_mk KX G hmg ?a_is_integer ?l_is_integer ?e_is_integer ?k_is_integer ?a_is_count ?l_is_count ?e_is_count ?k_is_count ?a_is_name ?l_is_name ?e_is_name ?k_is_name ?a_is_variable ?l_is_variable ?e_is_variable ?k_is_variable ?a_is_head ?l_is_head ?e_is_head ?k_is_head ?a_is_rest ?l_is_rest ?e_is_rest ?k_is_rest ?a_is_applied ?l_is_applied ?e_is_applied ?k_is_applied ?a_standings ?l_standings ?e_standings ?k_standings ?a_have_one_sort ?l_have_one_sort ?e_have_one_sort ?k_have_one_sort ?a_pieces ?l_pieces ?e_pieces ?k_pieces ?a_numbers_of ?l_numbers_of ?e_numbers_of ?k_numbers_of ?a_names_of ?l_names_of ?e_names_of ?k_names_of ?a_is_term ?l_is_term ?e_is_term ?k_is_term ?a_is_pattern ?l_is_pattern ?e_is_pattern ?k_is_pattern ?a_is_leaf ?l_is_leaf ?e_is_leaf ?k_is_leaf ?a_is_shape ?l_is_shape ?e_is_shape ?k_is_shape ?a_is_known_path ?l_is_known_path ?e_is_known_path ?k_is_known_path ?a_is_test ?l_is_test ?e_is_test ?k_is_test ?a_known_behind ?l_known_behind ?e_known_behind ?k_known_behind ?a_is_tree_of ?l_is_tree_of ?e_is_tree_of ?k_is_tree_of ?a_want_tree_count ?l_want_tree_count ?e_want_tree_count ?k_want_tree_count ?a_is_tree ?l_is_tree ?e_is_tree ?k_is_tree ?a__law_pot ?l__law_pot ?e__law_pot ?k__law_pot ?a__law_draw ?l__law_draw ?e__law_draw ?k__law_draw ?a__law_pick ?l__law_pick ?e__law_pick ?k__law_pick ?a__law_is_count ?l__law_is_count ?e__law_is_count ?k__law_is_count ?a__law_is_name ?l__law_is_name ?e__law_is_name ?k__law_is_name ?a__law_is_shape ?l__law_is_shape ?e__law_is_shape ?k__law_is_shape ?a__law_is_known ?l__law_is_known ?e__law_is_known ?k__law_is_known ?a__law_is_leaf ?l__law_is_leaf ?e__law_is_leaf ?k__law_is_leaf ?a__law_is_tree ?l__law_is_tree ?e__law_is_tree ?k__law_is_tree ?a__law_paths ?l__law_paths ?e__law_paths ?k__law_paths ?a__law_tree ?l__law_tree ?e__law_tree ?k__law_tree ?a__law_long ?l__law_long ?e__law_long ?k__law_long ?a__law_bent_leaf ?l__law_bent_leaf ?e__law_bent_leaf ?k__law_bent_leaf ?a__law_bent_test ?l__law_bent_test ?e__law_bent_test ?k__law_bent_test ?a__law_bent ?l__law_bent ?e__law_bent ?k__law_bent ?a__law_is_so ?l__law_is_so ?e__law_is_so ?k__law_is_so ?a__law_right ?l__law_right ?e__law_right ?k__law_right ?a_law ?l_law ?e_law ?k_law ?z_abs ?z_all ?z_any ?z_bool ?z_dict ?z_divmod ?z_int ?z_isinstance ?z_len ?z_list ?z_max ?z_range ?z_repr ?z_set ?z_sorted ?z_str ?z_sum ?z_tuple ?z_zip ?c_DIGITS ?c_FRESH_NAME ?c_GREAT ?c_HEAD ?c_IS ?c_MOST_ARGS ?c_MOST_DIGITS ?c_MOST_NUMBER ?c_MOST_POSITIONS ?c_MOST_SHAPE ?c_MOST_SIGNS ?c_NEAREST ?c_REST ?c_SAME ?c_SMALL ?c_TERM
    (case a_is_integer => k_is)
    (case l_is_integer => k_is)
    (case e_is_integer => k_is)
    (case k_is_integer => k_is)
    (case a_is_count => k_is)
    (case l_is_count => k_is)
    (case e_is_count => k_is)
    (case k_is_count => k_is)
    (case a_is_name => k_is)
    (case l_is_name => k_is)
    (case e_is_name => k_is)
    (case k_is_name => k_is)
    (case a_is_variable => k_is)
    (case l_is_variable => k_is)
    (case e_is_variable => k_is)
    (case k_is_variable => k_is)
    (case a_is_head => k_is)
    (case l_is_head => k_is)
    (case e_is_head => k_is)
    (case k_is_head => k_is)
    (case a_is_rest => k_is)
    (case l_is_rest => k_is)
    (case e_is_rest => k_is)
    (case k_is_rest => k_is)
    (case a_is_applied => k_is)
    (case l_is_applied => k_is)
    (case e_is_applied => k_is)
    (case k_is_applied => k_is)
    (case a_standings => k_is)
    (case l_standings => k_is)
    (case e_standings => k_is)
    (case k_standings => k_is)
    (case a_have_one_sort => k_is)
    (case l_have_one_sort => k_is)
    (case e_have_one_sort => k_is)
    (case k_have_one_sort => k_is)
    (case a_pieces => k_is)
    (case l_pieces => k_is)
    (case e_pieces => k_is)
    (case k_pieces => k_is)
    (case a_numbers_of => k_is)
    (case l_numbers_of => k_is)
    (case e_numbers_of => k_is)
    (case k_numbers_of => k_is)
    (case a_names_of => k_is)
    (case l_names_of => k_is)
    (case e_names_of => k_is)
    (case k_names_of => k_is)
    (case a_is_term => k_is)
    (case l_is_term => k_is)
    (case e_is_term => k_is)
    (case k_is_term => k_is)
    (case a_is_pattern => k_is)
    (case l_is_pattern => k_is)
    (case e_is_pattern => k_is)
    (case k_is_pattern => k_is)
    (case a_is_leaf => k_is)
    (case l_is_leaf => k_is)
    (case e_is_leaf => k_is)
    (case k_is_leaf => k_is)
    (case a_is_shape => k_is)
    (case l_is_shape => k_is)
    (case e_is_shape => k_is)
    (case k_is_shape => k_is)
    (case a_is_known_path => k_is)
    (case l_is_known_path => k_is)
    (case e_is_known_path => k_is)
    (case k_is_known_path => k_is)
    (case a_is_test => k_is)
    (case l_is_test => k_is)
    (case e_is_test => k_is)
    (case k_is_test => k_is)
    (case a_known_behind => k_is)
    (case l_known_behind => k_is)
    (case e_known_behind => k_is)
    (case k_known_behind => k_is)
    (case a_is_tree_of => k_is)
    (case l_is_tree_of => k_is)
    (case e_is_tree_of => k_is)
    (case k_is_tree_of => k_is)
    (case a_want_tree_count => k_is)
    (case l_want_tree_count => k_is)
    (case e_want_tree_count => k_is)
    (case k_want_tree_count => k_is)
    (case a_is_tree => k_is)
    (case l_is_tree => k_is)
    (case e_is_tree => k_is)
    (case k_is_tree => k_is)
    (case a__law_pot => k_is)
    (case l__law_pot => k_is)
    (case e__law_pot => k_is)
    (case k__law_pot => k_is)
    (case a__law_draw => k_is)
    (case l__law_draw => k_is)
    (case e__law_draw => k_is)
    (case k__law_draw => k_is)
    (case a__law_pick => k_is)
    (case l__law_pick => k_is)
    (case e__law_pick => k_is)
    (case k__law_pick => k_is)
    (case a__law_is_count => k_is)
    (case l__law_is_count => k_is)
    (case e__law_is_count => k_is)
    (case k__law_is_count => k_is)
    (case a__law_is_name => k_is)
    (case l__law_is_name => k_is)
    (case e__law_is_name => k_is)
    (case k__law_is_name => k_is)
    (case a__law_is_shape => k_is)
    (case l__law_is_shape => k_is)
    (case e__law_is_shape => k_is)
    (case k__law_is_shape => k_is)
    (case a__law_is_known => k_is)
    (case l__law_is_known => k_is)
    (case e__law_is_known => k_is)
    (case k__law_is_known => k_is)
    (case a__law_is_leaf => k_is)
    (case l__law_is_leaf => k_is)
    (case e__law_is_leaf => k_is)
    (case k__law_is_leaf => k_is)
    (case a__law_is_tree => k_is)
    (case l__law_is_tree => k_is)
    (case e__law_is_tree => k_is)
    (case k__law_is_tree => k_is)
    (case a__law_paths => k_is)
    (case l__law_paths => k_is)
    (case e__law_paths => k_is)
    (case k__law_paths => k_is)
    (case a__law_tree => k_is)
    (case l__law_tree => k_is)
    (case e__law_tree => k_is)
    (case k__law_tree => k_is)
    (case a__law_long => k_is)
    (case l__law_long => k_is)
    (case e__law_long => k_is)
    (case k__law_long => k_is)
    (case a__law_bent_leaf => k_is)
    (case l__law_bent_leaf => k_is)
    (case e__law_bent_leaf => k_is)
    (case k__law_bent_leaf => k_is)
    (case a__law_bent_test => k_is)
    (case l__law_bent_test => k_is)
    (case e__law_bent_test => k_is)
    (case k__law_bent_test => k_is)
    (case a__law_bent => k_is)
    (case l__law_bent => k_is)
    (case e__law_bent => k_is)
    (case k__law_bent => k_is)
    (case a__law_is_so => k_is)
    (case l__law_is_so => k_is)
    (case e__law_is_so => k_is)
    (case k__law_is_so => k_is)
    (case a__law_right => k_is)
    (case l__law_right => k_is)
    (case e__law_right => k_is)
    (case k__law_right => k_is)
    (case a_law => k_is)
    (case l_law => k_is)
    (case e_law => k_is)
    (case k_law => k_is)
    (case z_abs => k_is)
    (case z_all => k_is)
    (case z_any => k_is)
    (case z_bool => k_is)
    (case z_dict => k_is)
    (case z_divmod => k_is)
    (case z_int => k_is)
    (case z_isinstance => k_is)
    (case z_len => k_is)
    (case z_list => k_is)
    (case z_max => k_is)
    (case z_range => k_is)
    (case z_repr => k_is)
    (case z_set => k_is)
    (case z_sorted => k_is)
    (case z_str => k_is)
    (case z_sum => k_is)
    (case z_tuple => k_is)
    (case z_zip => k_is)
    (case c_DIGITS => k_is)
    (case c_FRESH_NAME => k_is)
    (case c_GREAT => k_is)
    (case c_HEAD => k_is)
    (case c_IS => k_is)
    (case c_MOST_ARGS => k_is)
    (case c_MOST_DIGITS => k_is)
    (case c_MOST_NUMBER => k_is)
    (case c_MOST_POSITIONS => k_is)
    (case c_MOST_SHAPE => k_is)
    (case c_MOST_SIGNS => k_is)
    (case c_NEAREST => k_is)
    (case c_REST => k_is)
    (case c_SAME => k_is)
    (case c_SMALL => k_is)
    (case c_TERM => k_is)
