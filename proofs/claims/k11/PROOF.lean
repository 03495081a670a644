import PyProof.Rows.All
import Wide.All
import OpenK.AllK
import Wide.FinOn
import HandS.ForMost
import HandS.Exc
import HandS.TryOnly
import HandS.TupAny
import HandS.TupMul
import HandS.Style
import HandS.Deep
import HandS.IsInst
import HandS.Flow
import HandS.SetKeys
import HandS.SortInts
import HandS.Iter
import HandS.More
import HandS.Small
import HandS.Ends
import HandS.Comp
import KE.GoesEnum
import PyProof.ReprRoads
import HandS.SortOrd
import HandS.SortRule
import HandS.TupSets
import KE.KSortTupAny
import PyProof.Rows.FactsT3
import HandS.SetFor
import PyProof.Rows.SetFrom
import PyProof.Rows.SortStr
import PySem.Challenge.RW_nearestpattern_k11_any_value_as_term
set_option Elab.async false
set_option linter.all false
set_option maxRecDepth 100000
set_option autoImplicit false
/-! A small interpreter over trees, and what it has to do with the abstract heap. -/
namespace VM
open PySem L2

/-! ### 1. values, cells, outcomes -/
/-- a value as a tree; a list or dict in it stands still for ever -/
inductive D where
  | non | bl (b : Bool) | int (i : Int) | str (x : Str)
  | tup (ds : List D) | lst (ds : List D) | dic (ks : List Key) (ds : List D)
  /-- the script -/
  | scr (ns : List Int)
  deriving Inhabited
/-- what a cell holds -/
inductive CV where
  | lst (ds : List D) | dic (ks : List Key) (ds : List D)
  deriving Inhabited
structure Cell where
  live : Bool
  val : CV
  deriving Inhabited
abbrev Sto := List Cell
/-- what a slot holds -/
inductive SV where
  | dat (d : D) | cel (k : Nat)
  deriving Inhabited
abbrev Env := List (Option SV)
/-- what an expression gives: data, a cell, or a new object that nobody else holds -/
inductive EV where
  | dat (d : D) | cel (k : Nat) | new (c : CV)
  deriving Inhabited
structure Exc where
  cls : Nat
  fs : List (Str × D)
  deriving Inhabited
inductive Res (α : Type) where
  | ok (a : α) (μ : Sto) | exc (x : Exc) (μ : Sto) | bad
  deriving Inhabited
abbrev Fns := Nat → List SV → Sto → Res EV
abbrev SE := Fns → Env → Sto → Res EV
/-- a test -/
abbrev SB := Fns → Env → Sto → Res Bool
inductive SO where
  | nx (ρ : Env) | rt (v : EV) | bk (ρ : Env) | ct (ρ : Env)
  deriving Inhabited
abbrev SS := Fns → Env → Sto → Res SO

def Res.bind {α β : Type} (r : Res α) (f : α → Sto → Res β) : Res β := match r with
  | .ok a μ => f a μ
  | .exc x μ => .exc x μ
  | .bad => .bad

def CV.toD : CV → D
  | .lst ds => .lst ds
  | .dic ks ds => .dic ks ds
/-- what is seen of a value -/
def EV.see (v : EV) (μ : Sto) : Option D := match v with
  | .dat d => some d
  | .new c => some c.toD
  | .cel k => match μ[k]? with
    | some c => some c.val.toD
    | none => none
/-- made still, for ever -/
def EV.frz (v : EV) (μ : Sto) : Option (D × Sto) := match v with
  | .dat d => some (d, μ)
  | .new c => some (c.toD, μ)
  | .cel k => match μ[k]? with
    | some c => some (c.val.toD, μ.set k ⟨false, c.val⟩)
    | none => none
def frzs : List EV → Sto → Option (List D × Sto)
  | [], μ => some ([], μ)
  | v :: vs, μ => match v.frz μ with
    | some (d, μ1) => match frzs vs μ1 with
      | some (ds, μ2) => some (d :: ds, μ2)
      | none => none
    | none => none
def SV.ev : SV → EV
  | .dat d => .dat d
  | .cel k => .cel k

/-! ### 2. what stands for what -/
section
variable (K : PySem.W.Frag) (L : Addr → Prop) (H : Hp)
def WrT (a : Addr) (vs : List V) : Prop := ∃ (o : Obj) (its : Array Value) (n : Nat), K.lookup a = some o ∧ o.cls = .type "tuple" ∧ o.data = .seq its n ∧ its.size ≤ sizeLine ∧ Vals vs its.toList
def WrL (a : Addr) (vs : List V) : Prop := ∃ (o : Obj) (its : Array Value) (n : Nat), K.lookup a = some o ∧ o.cls = .type "list" ∧ o.dict = none ∧ o.data = .seq its n ∧ its.size ≤ sizeLine ∧ Vals vs its.toList
def TupN (a : Addr) (vs : List V) : Prop := (Rd H a (.tup vs) ∧ ¬ L a) ∨ WrT K a vs
def LstN (a : Addr) (vs : List V) : Prop := (Rd H a (.lst vs) ∧ ¬ L a) ∨ WrL K a vs
mutual
def Rep : D → V → Prop
  | .non, v => v = .non
  | .bl b, v => v = .bl b
  | .int i, v => v = .int i
  | .str x, v => v = .str x
  | .tup ds, v => ∃ a vs, v = .ref a ∧ TupN K L H a vs ∧ Reps ds vs
  | .lst ds, v => ∃ a vs, v = .ref a ∧ H a = some (.lst vs) ∧ ¬ L a ∧ Reps ds vs
  | .dic ks ds, v => ∃ a vs, v = .ref a ∧ H a = some (.dK (ks.zip vs)) ∧ ¬ L a ∧ ks.length = ds.length ∧ Reps ds vs
  | .scr ns, v => ∃ a, v = .ref a ∧ LstN K L H a (ns.map V.int)
def Reps : List D → List V → Prop
  | [], vs => vs = []
  | d :: ds, vs => ∃ v r, vs = v :: r ∧ Rep d v ∧ Reps ds r
end
end
section
variable {K : PySem.W.Frag} {L L' : Addr → Prop} {H H' : Hp}
theorem TupN.sq {a : Addr} {vs : List V} (h : TupN K L H a vs) : SqT K H a vs := by
  rcases h with h | h
  · exact .inl h.1
  · exact .inr h
theorem LstN.sq {a : Addr} {vs : List V} (h : LstN K L H a vs) : SqL K H a vs := by
  rcases h with h | h
  · exact .inl h.1
  · exact .inr h
/-- what does not live stays -/
def Mv (L : Addr → Prop) (H : Hp) (L' : Addr → Prop) (H' : Hp) : Prop := ∀ a o, H a = some o → ¬ L a → H' a = some o ∧ ¬ L' a
theorem rd_mv {a : Addr} {u : HO} (m : Mv L H L' H') (h : Rd H a u) (n : ¬ L a) : Rd H' a u ∧ ¬ L' a := by
  rcases h with h | ⟨o, h⟩
  · exact ⟨.inl (m a _ h n).1, (m a _ h n).2⟩
  · exact ⟨.inr ⟨o, (m a _ h n).1⟩, (m a _ h n).2⟩
theorem TupN.mv {a : Addr} {vs : List V} (m : Mv L H L' H') (h : TupN K L H a vs) : TupN K L' H' a vs := by
  rcases h with ⟨h, n⟩ | h
  · exact .inl (rd_mv m h n)
  · exact .inr h
theorem LstN.mv {a : Addr} {vs : List V} (m : Mv L H L' H') (h : LstN K L H a vs) : LstN K L' H' a vs := by
  rcases h with ⟨h, n⟩ | h
  · exact .inl (rd_mv m h n)
  · exact .inr h
mutual
theorem Rep.mv (m : Mv L H L' H') : ∀ (d : D) (v : V), Rep K L H d v → Rep K L' H' d v
  | .non, v, h => by simpa only [Rep] using h
  | .bl _, v, h => by simpa only [Rep] using h
  | .int _, v, h => by simpa only [Rep] using h
  | .str _, v, h => by simpa only [Rep] using h
  | .tup ds, v, h => by
    simp only [Rep] at h ⊢
    obtain ⟨a, vs, e, t, r⟩ := h
    exact ⟨a, vs, e, t.mv m, Reps.mv m ds vs r⟩
  | .lst ds, v, h => by
    simp only [Rep] at h ⊢
    obtain ⟨a, vs, e, t, n, r⟩ := h
    exact ⟨a, vs, e, (m a _ t n).1, (m a _ t n).2, Reps.mv m ds vs r⟩
  | .scr ns, v, h => by
    simp only [Rep] at h ⊢
    obtain ⟨a, e, t⟩ := h
    exact ⟨a, e, t.mv m⟩
  | .dic ks ds, v, h => by
    simp only [Rep] at h ⊢
    obtain ⟨a, vs, e, t, n, l, r⟩ := h
    exact ⟨a, vs, e, (m a _ t n).1, (m a _ t n).2, l, Reps.mv m ds vs r⟩
theorem Reps.mv (m : Mv L H L' H') : ∀ (ds : List D) (vs : List V), Reps K L H ds vs → Reps K L' H' ds vs
  | [], vs, h => by simpa only [Reps] using h
  | d :: ds, vs, h => by
    simp only [Reps] at h ⊢
    obtain ⟨v, r, e, h1, h2⟩ := h
    exact ⟨v, r, e, Rep.mv m d v h1, Reps.mv m ds r h2⟩
end
theorem Reps.len : ∀ {ds : List D} {vs : List V}, Reps K L H ds vs → vs.length = ds.length
  | [], vs, h => by
    have h : vs = [] := by simpa only [Reps] using h
    rw [h] <;> rfl
  | d :: ds, vs, h => by
    simp only [Reps] at h
    obtain ⟨v, r, e, h1, h2⟩ := h
    rw [e, List.length_cons, List.length_cons, Reps.len h2]
theorem Reps.nil : Reps K L H [] [] := by simp only [Reps]
theorem Reps.cons {d : D} {v : V} {ds : List D} {vs : List V} (h : Rep K L H d v) (t : Reps K L H ds vs) : Reps K L H (d :: ds) (v :: vs) := by
  simp only [Reps]
  exact ⟨v, vs, rfl, h, t⟩
theorem Reps.inv {d : D} {ds : List D} {vs : List V} (h : Reps K L H (d :: ds) vs) : ∃ v r, vs = v :: r ∧ Rep K L H d v ∧ Reps K L H ds r := by
  simpa only [Reps] using h
theorem Reps.invN {vs : List V} (h : Reps K L H [] vs) : vs = [] := by simpa only [Reps] using h
theorem Reps.app : ∀ {ds es : List D} {vs ws : List V}, Reps K L H ds vs → Reps K L H es ws → Reps K L H (ds ++ es) (vs ++ ws)
  | [], es, vs, ws, h, g => by
    rw [h.invN]; exact g
  | d :: ds, es, vs, ws, h, g => by
    obtain ⟨v, r, e, h1, h2⟩ := h.inv
    subst e
    exact Reps.cons h1 (Reps.app h2 g)
theorem Reps.get : ∀ {ds : List D} {vs : List V} {i : Nat} {d : D}, Reps K L H ds vs → ds[i]? = some d → ∃ v, vs[i]? = some v ∧ Rep K L H d v
  | [], vs, i, d, h, e => by simp at e
  | x :: ds, vs, 0, d, h, e => by
    obtain ⟨v, r, e1, h1, h2⟩ := h.inv
    subst e1
    simp at e; subst e
    exact ⟨v, rfl, h1⟩
  | x :: ds, vs, i + 1, d, h, e => by
    obtain ⟨v, r, e1, h1, h2⟩ := h.inv
    subst e1
    obtain ⟨w, q1, q2⟩ := Reps.get (i := i) h2 (by simpa using e)
    exact ⟨w, by simpa using q1, q2⟩
theorem Reps.get' : ∀ {ds : List D} {vs : List V} {i : Nat} {v : V}, Reps K L H ds vs → vs[i]? = some v → ∃ d, ds[i]? = some d ∧ Rep K L H d v
  | [], vs, i, d, h, e => by rw [h.invN] at e; simp at e
  | x :: ds, vs, 0, d, h, e => by
    obtain ⟨v, r, e1, h1, h2⟩ := h.inv
    subst e1
    simp at e; subst e
    exact ⟨x, rfl, h1⟩
  | x :: ds, vs, i + 1, d, h, e => by
    obtain ⟨v, r, e1, h1, h2⟩ := h.inv
    subst e1
    obtain ⟨w, q1, q2⟩ := Reps.get' (i := i) h2 (by simpa using e)
    exact ⟨w, by simpa using q1, q2⟩
theorem Reps.set : ∀ {ds : List D} {vs : List V} {d : D} {v : V} (i : Nat), Reps K L H ds vs → Rep K L H d v → Reps K L H (ds.set i d) (vs.set i v)
  | [], vs, d, v, i, h, g => by rw [h.invN]; exact Reps.nil
  | x :: ds, vs, d, v, 0, h, g => by
    obtain ⟨w, r, e1, h1, h2⟩ := h.inv
    subst e1
    exact Reps.cons g h2
  | x :: ds, vs, d, v, i + 1, h, g => by
    obtain ⟨w, r, e1, h1, h2⟩ := h.inv
    subst e1
    exact Reps.cons h1 (Reps.set i h2 g)
theorem Reps.take : ∀ {ds : List D} {vs : List V} (n : Nat), Reps K L H ds vs → Reps K L H (ds.take n) (vs.take n)
  | ds, vs, 0, h => by rw [List.take_zero, List.take_zero]; exact Reps.nil
  | [], vs, n + 1, h => by rw [h.invN]; exact Reps.nil
  | x :: ds, vs, n + 1, h => by
    obtain ⟨w, r, e1, h1, h2⟩ := h.inv
    subst e1
    exact Reps.cons h1 (Reps.take n h2)
theorem Reps.drop : ∀ {ds : List D} {vs : List V} (n : Nat), Reps K L H ds vs → Reps K L H (ds.drop n) (vs.drop n)
  | ds, vs, 0, h => h
  | [], vs, n + 1, h => by rw [h.invN]; exact Reps.nil
  | x :: ds, vs, n + 1, h => by
    obtain ⟨w, r, e1, h1, h2⟩ := h.inv
    subst e1
    exact Reps.drop n h2
theorem Reps.rev : ∀ {ds : List D} {vs : List V}, Reps K L H ds vs → Reps K L H ds.reverse vs.reverse
  | [], vs, h => by rw [h.invN]; exact Reps.nil
  | x :: ds, vs, h => by
    obtain ⟨w, r, e1, h1, h2⟩ := h.inv
    subst e1
    rw [List.reverse_cons, List.reverse_cons]
    exact Reps.app (Reps.rev h2) (Reps.cons h1 Reps.nil)
end

/-! ### 3. the store and the heap -/
/-- the live cells' addresses -/
def Cel (μ : Sto) (ι : List Addr) (a : Addr) : Prop := ∃ (k : Nat) (c : Cell), μ[k]? = some c ∧ c.live = true ∧ ι[k]? = some a
def Liv (Acc : Addr → Prop) (μ : Sto) (ι : List Addr) (a : Addr) : Prop := Cel μ ι a ∨ Acc a
def CvR (K : PySem.W.Frag) (L : Addr → Prop) (H : Hp) (c : CV) (a : Addr) : Prop := match c with
  | .lst ds => ∃ vs, H a = some (.lst vs) ∧ Reps K L H ds vs
  | .dic ks ds => ∃ vs, H a = some (.dK (ks.zip vs)) ∧ ks.length = ds.length ∧ Reps K L H ds vs
structure Sim (K : PySem.W.Frag) (Acc : Addr → Prop) (μ : Sto) (ι : List Addr) (H : Hp) : Prop where
  len : ι.length = μ.length
  nd : ι.Nodup
  acc : ∀ a, Acc a → a ∉ ι ∧ H a ≠ none
  cell : ∀ (k : Nat) (c : Cell), μ[k]? = some c → ∃ a, ι[k]? = some a ∧ CvR K (Liv Acc μ ι) H c.val a
/-- how a run goes on: from (ι, μ, H) to (ι', μ', H') -/
structure Stp (K : PySem.W.Frag) (Acc : Addr → Prop) (ι : List Addr) (μ : Sto) (H : Hp) (ι' : List Addr) (μ' : Sto) (H' : Hp) : Prop where
  sim : Sim K Acc μ' ι' H'
  pre : ∃ ex, ι' = ι ++ ex ∧ ∀ a ∈ ex, H a = none
  keep : ∀ a o, H a = some o → ¬ Cel μ ι a → H' a = some o
  trk : ∀ a, H a ≠ none → H' a ≠ none
  liv : ∀ a, Cel μ' ι' a → Cel μ ι a ∨ H a = none
def SvR (K : PySem.W.Frag) (L : Addr → Prop) (ι : List Addr) (H : Hp) (s : SV) (v : V) : Prop := match s with
  | .dat d => Rep K L H d v
  | .cel k => ∃ a, ι[k]? = some a ∧ v = .ref a
def EnvR (K : PySem.W.Frag) (L : Addr → Prop) (ι : List Addr) (H : Hp) (ρ : Env) (σ : L2.St) : Prop :=
  ρ.length = σ.length ∧ ∀ (i : Nat) s, ρ[i]? = some (some s) → ∃ v, σ[i]? = some (some v) ∧ SvR K L ι H s v
/-- H0: the heap ahead -/
def EvR (K : PySem.W.Frag) (L : Addr → Prop) (ι : List Addr) (H0 H : Hp) (e : EV) (v : V) : Prop := match e with
  | .dat d => Rep K L H d v
  | .cel k => ∃ a, ι[k]? = some a ∧ v = .ref a
  | .new c => ∃ p, v = .ref p ∧ H0 p = none ∧ CvR K L H c p
/-- a new object: nothing still leads to it -/
def OwnR (K : PySem.W.Frag) (Acc : Addr → Prop) (μ : Sto) (ι : List Addr) (H : Hp) (e : EV) (v : V) : Prop := match e with
  | .new c => ∀ p, v = .ref p → Sim K (fun a => Acc a ∨ a = p) μ ι H ∧ CvR K (Liv (fun a => Acc a ∨ a = p) μ ι) H c p
  | _ => True
def EvsR (K : PySem.W.Frag) (L : Addr → Prop) (ι : List Addr) (H0 H : Hp) : List EV → List V → Prop
  | [], vs => vs = []
  | e :: es, vs => ∃ v r, vs = v :: r ∧ EvR K L ι H0 H e v ∧ EvsR K L ι H0 H es r
/-- an exception: its class's address, its own dict's, what lies there -/
structure XI where
  cls : Nat → Addr
def ExcR (K : PySem.W.Frag) (XC : Nat → Addr) (L : Addr → Prop) (H0 H : Hp) (x : Exc) (c : Value) (da : Option Addr) : Prop :=
  c = .ref (XC x.cls) ∧ match da with
    | none => x.fs = []
    | some d => H0 d = none ∧ ∃ vs, H d = some (.xd ((x.fs.map (·.1)).zip vs)) ∧ Reps K L H (x.fs.map (·.2)) vs

section
variable {K : PySem.W.Frag} {Acc : Addr → Prop} {ι ι1 ι2 ι' : List Addr} {μ μ1 μ2 μ' : Sto} {H H0 H1 H2 H' : Hp}
theorem Cel.mem {a : Addr} (h : Cel μ ι a) : a ∈ ι := by
  obtain ⟨k, c, _, _, e⟩ := h
  exact List.mem_of_getElem? e
theorem CvR.trk {L : Addr → Prop} {c : CV} {a : Addr} (h : CvR K L H c a) : H a ≠ none := by
  cases c with
  | lst ds => obtain ⟨vs, e, _⟩ := h; rw [e]; simp
  | dic ks ds => obtain ⟨vs, e, _⟩ := h; rw [e]; simp
theorem Sim.trk (S : Sim K Acc μ ι H) {a : Addr} (h : a ∈ ι) : H a ≠ none := by
  obtain ⟨k, hk⟩ := List.getElem?_of_mem h
  have hl : k < μ.length := by rw [← S.len]; exact (List.getElem?_eq_some_iff.mp hk).1
  obtain ⟨b, e, r⟩ := S.cell k _ (List.getElem?_eq_getElem hl)
  rw [hk] at e; cases e
  exact r.trk
theorem Sim.live_ne (S : Sim K Acc μ ι H) {a p : Addr} (h : Liv Acc μ ι a) (n : H p = none) : a ≠ p := by
  rintro rfl
  rcases h with h | h
  · exact S.trk h.mem n
  · exact (S.acc a h).2 n
theorem Stp.mv (t : Stp K Acc ι μ H ι' μ' H') (S : Sim K Acc μ ι H) : Mv (Liv Acc μ ι) H (Liv Acc μ' ι') H' := fun a o h n => by
  refine ⟨t.keep a o h fun z => n (.inl z), fun z => ?_⟩
  rcases z with z | z
  · rcases t.liv a z with z | z
    · exact n (.inl z)
    · rw [h] at z; cases z
  · exact n (.inr z)
theorem Stp.refl (S : Sim K Acc μ ι H) : Stp K Acc ι μ H ι μ H := ⟨S, ⟨[], by simp, by simp⟩, fun _ _ h _ => h, fun _ h => h, fun _ h => .inl h⟩
theorem Stp.back (t : Stp K Acc ι μ H ι' μ' H') {p : Addr} (h : H' p = none) : H p = none := by
  cases e : H p with
  | none => rfl
  | some o => exact absurd h (t.trk p (by rw [e]; simp))
theorem Stp.trans (a : Stp K Acc ι μ H ι1 μ1 H1) (b : Stp K Acc ι1 μ1 H1 ι2 μ2 H2) : Stp K Acc ι μ H ι2 μ2 H2 := by
  refine ⟨b.sim, ?_, fun x o h n => ?_, fun x h => b.trk x (a.trk x h), fun x h => ?_⟩
  · obtain ⟨e1, h1, n1⟩ := a.pre
    obtain ⟨e2, h2, n2⟩ := b.pre
    refine ⟨e1 ++ e2, by rw [h2, h1, List.append_assoc], fun x hx => ?_⟩
    rcases List.mem_append.mp hx with hx | hx
    · exact n1 x hx
    · exact a.back (n2 x hx)
  · refine b.keep x o (a.keep x o h n) fun z => ?_
    rcases a.liv x z with z | z
    · exact n z
    · rw [h] at z; cases z
  · rcases b.liv x h with z | z
    · exact a.liv x z
    · exact .inr (a.back z)
theorem Stp.get (t : Stp K Acc ι μ H ι' μ' H') {k : Nat} {a : Addr} (h : ι[k]? = some a) : ι'[k]? = some a := by
  obtain ⟨ex, e, _⟩ := t.pre
  rw [e, List.getElem?_append_left (List.getElem?_eq_some_iff.mp h).1]
  exact h
theorem CvR.mv {L L' : Addr → Prop} {c : CV} {a : Addr} (m : Mv L H L' H') (h : CvR K L H c a) (ha : ∀ o, H a = some o → H' a = some o) : CvR K L' H' c a := by
  cases c with
  | lst ds => obtain ⟨vs, e, r⟩ := h; exact ⟨vs, ha _ e, Reps.mv m _ _ r⟩
  | dic ks ds => obtain ⟨vs, e, l, r⟩ := h; exact ⟨vs, ha _ e, l, Reps.mv m _ _ r⟩
theorem SvR.mv {s : SV} {v : V} (t : Stp K Acc ι μ H ι' μ' H') (S : Sim K Acc μ ι H) (h : SvR K (Liv Acc μ ι) ι H s v) : SvR K (Liv Acc μ' ι') ι' H' s v := by
  cases s with
  | dat d => exact Rep.mv (t.mv S) _ _ h
  | cel k => obtain ⟨a, e, r⟩ := h; exact ⟨a, t.get e, r⟩
theorem EnvR.mv {ρ : Env} {σ : L2.St} (t : Stp K Acc ι μ H ι' μ' H') (S : Sim K Acc μ ι H) (h : EnvR K (Liv Acc μ ι) ι H ρ σ) : EnvR K (Liv Acc μ' ι') ι' H' ρ σ :=
  ⟨h.1, fun i s e => let ⟨v, e1, r⟩ := h.2 i s e; ⟨v, e1, r.mv t S⟩⟩
/-- a value found by a step, carried over the next one -/
theorem EvR.mv {e : EV} {v : V} (a : Stp K Acc ι μ H ι1 μ1 H1) (S : Sim K Acc μ ι H) (b : Stp K Acc ι1 μ1 H1 ι2 μ2 H2) (h : EvR K (Liv Acc μ1 ι1) ι1 H H1 e v) (hi : ι1 = ι) : EvR K (Liv Acc μ2 ι2) ι2 H H2 e v := by
  subst hi
  cases e with
  | dat d => exact Rep.mv (b.mv a.sim) _ _ h
  | cel k => obtain ⟨x, e, r⟩ := h; exact ⟨x, b.get e, r⟩
  | new c =>
    obtain ⟨p, e, n, r⟩ := h
    refine ⟨p, e, n, r.mv (b.mv a.sim) fun o ho => b.keep p o ho fun z => ?_⟩
    exact S.trk z.mem n
theorem EvR.back {e : EV} {v : V} {L : Addr → Prop} (a : Stp K Acc ι μ H ι1 μ1 H1) (h : EvR K L ι2 H1 H2 e v) : EvR K L ι2 H H2 e v := by
  cases e with
  | dat d => exact h
  | cel k => exact h
  | new c => obtain ⟨p, e, n, r⟩ := h; exact ⟨p, e, a.back n, r⟩
end
end VM
/-! The readings by the interpreter, and the rules of plain expressions. -/
namespace VM
open PySem L2

/-! ### 1. readings -/
/-- what a run's outcome r asks of what follows; base: (ι, μ, H) ahead -/
def wp {α β : Type} (Rel : (Addr → Prop) → Sto → List Addr → Hp → Hp → α → β → Prop) (K : PySem.W.Frag) (XC : Nat → Addr) (W : WX) (Acc : Addr → Prop) (ι : List Addr) (μ : Sto) (H : Hp) (σ : L2.St) (r : Res α) (Q : β → Hp → Prop) : Prop := match r with
  | .ok a μ' => ∀ b H', Stp K Acc ι μ H ι μ' H' → Rel Acc μ' ι H H' a b → Q b H'
  | .exc x μ' => ∀ c d H', Stp K Acc ι μ H ι μ' H' → ExcR K XC (Liv Acc μ' ι) H H' x c d → W c d σ H'
  | .bad => False
/-- the relations used -/
abbrev relE (K : PySem.W.Frag) : (Addr → Prop) → Sto → List Addr → Hp → Hp → EV → V → Prop := fun Acc μ ι H H' e v => EvR K (Liv Acc μ ι) ι H H' e v ∧ OwnR K Acc μ ι H' e v
abbrev relB : (Addr → Prop) → Sto → List Addr → Hp → Hp → Bool → Bool → Prop := fun _ _ _ _ _ a b => b = a
abbrev relA (K : PySem.W.Frag) : (Addr → Prop) → Sto → List Addr → Hp → Hp → List EV → List V → Prop := fun Acc μ ι H H' e v => EvsR K (Liv Acc μ ι) ι H H' e v
/-- parts of a slice -/
abbrev relO : (Addr → Prop) → Sto → List Addr → Hp → Hp → Option Int → Option Int → Prop := fun _ _ _ _ _ a b => b = a
abbrev SA := Fns → Env → Sto → Res (List EV)
abbrev SOp := Fns → Env → Sto → Res (Option Int)

section
variable (K : PySem.W.Frag) (XC : Nat → Addr) (F : Fns) (W : WX)
def rd {α β : Type} (Rel : (Addr → Prop) → Sto → List Addr → Hp → Hp → α → β → Prop) (f : Fns → Env → Sto → Res α) (σ : L2.St) (H : Hp) (Q : β → Hp → Prop) : Prop :=
  ∃ (Acc : Addr → Prop) (ι : List Addr) (ρ : Env) (μ : Sto), Sim K Acc μ ι H ∧ EnvR K (Liv Acc μ ι) ι H ρ σ ∧ wp Rel K XC W Acc ι μ H σ (f F ρ μ) Q
abbrev rdE (f : SE) : TE := fun σ H Q => rd K XC F W (relE K) f σ H Q
abbrev rdB (f : SB) : TT := fun σ H Q => rd K XC F W relB f σ H Q
abbrev rdA (f : SA) : TA := fun σ H Q => rd K XC F W (relA K) f σ H Q
abbrev rdO (f : SOp) : TO := fun σ H Q => rd K XC F W relO f σ H Q
end

section
variable {K : PySem.W.Frag} {XC : Nat → Addr} {F : Fns} {W : WX} {Acc : Addr → Prop} {ι ι1 ι2 : List Addr} {μ μ1 μ2 : Sto} {H H0 H1 H2 : Hp} {σ : L2.St}
theorem EvsR.back {L : Addr → Prop} {ι' : List Addr} {μ' : Sto} : ∀ {es : List EV} {vs : List V}, Stp K Acc ι μ H ι' μ' H1 → EvsR K L ι2 H1 H2 es vs → EvsR K L ι2 H H2 es vs
  | [], vs, a, h => h
  | e :: es, vs, a, h => by
    obtain ⟨v, r, e1, h1, h2⟩ := h
    exact ⟨v, r, e1, EvR.back a h1, EvsR.back a h2⟩
theorem EvsR.mv : ∀ {es : List EV} {vs : List V}, Stp K Acc ι μ H ι μ1 H1 → Sim K Acc μ ι H → Stp K Acc ι μ1 H1 ι μ2 H2 → EvsR K (Liv Acc μ1 ι) ι H H1 es vs → EvsR K (Liv Acc μ2 ι) ι H H2 es vs
  | [], vs, a, S, b, h => h
  | e :: es, vs, a, S, b, h => by
    obtain ⟨v, r, e1, h1, h2⟩ := h
    exact ⟨v, r, e1, EvR.mv a S b h1 rfl, EvsR.mv a S b h2⟩
/-- what carries back a relation to an earlier base -/
class Back {α β : Type} (Rel : (Addr → Prop) → Sto → List Addr → Hp → Hp → α → β → Prop) (K : PySem.W.Frag) : Prop where
  back : ∀ {Acc : Addr → Prop} {ι ι' ι2 : List Addr} {μ μ' : Sto} {H H1 H2 : Hp} {Acc2 : Addr → Prop} {μ2 : Sto} {a : α} {b : β}, Stp K Acc ι μ H ι' μ' H1 → Rel Acc2 μ2 ι2 H1 H2 a b → Rel Acc2 μ2 ι2 H H2 a b
instance : Back (relE K) K := ⟨fun s h => ⟨EvR.back s h.1, h.2⟩⟩
instance : Back (relA K) K := ⟨fun s h => EvsR.back s h⟩
instance : Back relB K := ⟨fun _ h => h⟩
instance : Back relO K := ⟨fun _ h => h⟩
theorem ExcR.back {L : Addr → Prop} {ι' : List Addr} {μ' : Sto} {x : Exc} {c : Value} {d : Option Addr} (a : Stp K Acc ι μ H ι' μ' H1) (h : ExcR K XC L H1 H2 x c d) : ExcR K XC L H H2 x c d := by
  refine ⟨h.1, ?_⟩
  have h2 := h.2
  cases d with
  | none => exact h2
  | some d => exact ⟨a.back h2.1, h2.2⟩
/-- a run's wish, asked from a later base -/
theorem wp.shift {α β : Type} {Rel : (Addr → Prop) → Sto → List Addr → Hp → Hp → α → β → Prop} [Back Rel K] {r : Res α} {Q : β → Hp → Prop} (t : Stp K Acc ι μ H ι μ1 H1) (h : wp Rel K XC W Acc ι μ H σ r Q) : wp Rel K XC W Acc ι μ1 H1 σ r Q := by
  cases r with
  | ok a μ' => exact fun b H' t' rl => h b H' (t.trans t') (Back.back t rl)
  | exc x μ' => exact fun c d H' t' rl => h c d H' (t.trans t') (rl.back t)
  | bad => exact h
theorem wp.imp {α β : Type} {Rel : (Addr → Prop) → Sto → List Addr → Hp → Hp → α → β → Prop} {r : Res α} {Q Q' : β → Hp → Prop} (h : wp Rel K XC W Acc ι μ H σ r Q) (q : ∀ b H', Q b H' → Q' b H') : wp Rel K XC W Acc ι μ H σ r Q' := by
  cases r with
  | ok a μ' => exact fun b H' t' rl => q _ _ (h b H' t' rl)
  | exc x μ' => exact h
  | bad => exact h
/-- one run, then another: the first reading; the wish is told from an earlier base -/
theorem rd.bind {α β γ δ : Type} {Rel : (Addr → Prop) → Sto → List Addr → Hp → Hp → α → β → Prop} {Rel2 : (Addr → Prop) → Sto → List Addr → Hp → Hp → γ → δ → Prop} {f : Fns → Env → Sto → Res α} {ρ : Env} {g : α → Sto → Res γ} {Q : δ → Hp → Prop} {P : β → Hp → Prop}
    (t : Stp K Acc ι μ1 H1 ι μ H) (E : EnvR K (Liv Acc μ ι) ι H ρ σ) (h : wp Rel2 K XC W Acc ι μ1 H1 σ ((f F ρ μ).bind g) Q)
    (k : ∀ a μ' b H', f F ρ μ = .ok a μ' → Stp K Acc ι μ H ι μ' H' → Rel Acc μ' ι H H' a b → wp Rel2 K XC W Acc ι μ1 H1 σ (g a μ') Q → P b H') : rd K XC F W Rel f σ H P := by
  refine ⟨Acc, ι, ρ, μ, t.sim, E, ?_⟩
  cases e : f F ρ μ with
  | ok a μ' => rw [e] at h; exact fun b H' t' rl => k a μ' b H' e t' rl h
  | exc x μ' => rw [e] at h; exact fun c d H' t' rl => h c d H' (t.trans t') (rl.back t)
  | bad => rw [e] at h; exact h
/-- the last run -/
theorem rd.last {α β : Type} {Rel : (Addr → Prop) → Sto → List Addr → Hp → Hp → α → β → Prop} [Back Rel K] {f : Fns → Env → Sto → Res α} {ρ : Env} {Q : β → Hp → Prop}
    (t : Stp K Acc ι μ1 H1 ι μ H) (E : EnvR K (Liv Acc μ ι) ι H ρ σ) (h : wp Rel K XC W Acc ι μ1 H1 σ (f F ρ μ) Q) : rd K XC F W Rel f σ H Q := ⟨Acc, ι, ρ, μ, t.sim, E, wp.shift t h⟩
end

theorem PEimp {X : Cx} {e : Expr} {t t' : TE} (h : PE X e t) (i : ∀ σ H Q, t' σ H Q → t σ H Q) : PE X e t' := ⟨fun pins s σ H Q I q => h.run pins s σ H Q I (i σ H Q q)⟩
theorem PTimp {X : Cx} {e : Expr} {t t' : TT} (h : PT X e t) (i : ∀ σ H Q, t' σ H Q → t σ H Q) : PT X e t' := ⟨fun pins s σ H Q I q => h.run pins s σ H Q I (i σ H Q q)⟩
theorem PWimp {X : Cx} {e : Expr} {t t' : TT} (h : PW X e t) (i : ∀ σ H Q, t' σ H Q → t σ H Q) : PW X e t' := ⟨fun wh pins s σ H Q I q => h.run wh pins s σ H Q I (i σ H Q q)⟩
theorem PAimp {X : Cx} {e : List Expr} {t t' : TA} (h : PA X e t) (i : ∀ σ H Q, t' σ H Q → t σ H Q) : PA X e t' := ⟨fun pos pins s σ H Q I q => h.run pos pins s σ H Q I (i σ H Q q)⟩
theorem PSimp {X : Cx} {e : Stmt} {t t' : TS} (h : PS X e t) (i : ∀ D σ H, t' D σ H → t D σ H) : PS X e t' := ⟨fun pins s σ H D I q => h.run pins s σ H D I (i D σ H q)⟩
theorem PSsimp {X : Cx} {e : List Stmt} {t t' : TS} (h : PSs X e t) (i : ∀ D σ H, t' D σ H → t D σ H) : PSs X e t' := ⟨fun pins s σ H D I q => h.run pins s σ H D I (i D σ H q)⟩

/-! ### 2. new objects, views -/
section
variable {K : PySem.W.Frag} {Acc : Addr → Prop} {ι : List Addr} {μ : Sto} {H : Hp}
theorem Sim.up (S : Sim K Acc μ ι H) {p : Addr} (n : H p = none) (o : HO) : Stp K Acc ι μ H ι μ (upd H p o) := by
  have kp : ∀ a u, H a = some u → upd H p o a = some u := fun a u e => by rw [upd_ne (ne_of_none e n)]; exact e
  have m : Mv (Liv Acc μ ι) H (Liv Acc μ ι) (upd H p o) := fun a u e l => ⟨kp a u e, l⟩
  refine ⟨⟨S.len, S.nd, fun a h => ⟨(S.acc a h).1, ?_⟩, fun k c e => ?_⟩, ⟨[], by simp, by simp⟩, fun a u e _ => kp a u e, fun a h => ?_, fun a h => .inl h⟩
  · cases e : H a with
    | none => exact absurd e (S.acc a h).2
    | some u => rw [kp a u e]; simp
  · obtain ⟨a, e1, r⟩ := S.cell k c e
    exact ⟨a, e1, r.mv m fun u e => kp a u e⟩
  · cases e : H a with
    | none => exact absurd e h
    | some u => rw [kp a u e]; simp
theorem Sim.noLive (S : Sim K Acc μ ι H) {p : Addr} (n : H p = none) : ¬ Liv Acc μ ι p := fun h => S.live_ne h n rfl
/-- a new tuple -/
theorem Sim.newT (S : Sim K Acc μ ι H) {p : Addr} (n : H p = none) {ds : List D} {vs : List V} (r : Reps K (Liv Acc μ ι) H ds vs) : Rep K (Liv Acc μ ι) (upd H p (.tup vs)) (.tup ds) (.ref p) := by
  simp only [Rep]
  exact ⟨p, vs, rfl, .inl ⟨.inl upd_same, S.noLive n⟩, Reps.mv ((S.up n _).mv S) _ _ r⟩
theorem Sim.newL (S : Sim K Acc μ ι H) {p : Addr} (n : H p = none) {ds : List D} {vs : List V} (r : Reps K (Liv Acc μ ι) H ds vs) : CvR K (Liv Acc μ ι) (upd H p (.lst vs)) (.lst ds) p :=
  ⟨vs, upd_same, Reps.mv ((S.up n _).mv S) _ _ r⟩
/-- one more that must not be touched -/
theorem Sim.more (S : Sim K Acc μ ι H) {p : Addr} (n : H p = none) (o : HO) : Sim K (fun a => Acc a ∨ a = p) μ ι (upd H p o) := by
  have t := S.up n o
  have m : Mv (Liv Acc μ ι) H (Liv (fun a => Acc a ∨ a = p) μ ι) (upd H p o) := fun a u e l => by
    refine ⟨by rw [upd_ne (ne_of_none e n)]; exact e, fun z => ?_⟩
    rcases z with z | z | z
    · exact l (.inl z)
    · exact l (.inr z)
    · subst z; rw [n] at e; cases e
  refine ⟨S.len, S.nd, fun a h => ?_, fun k c e => ?_⟩
  · rcases h with h | rfl
    · exact t.sim.acc a h
    · exact ⟨fun z => S.trk z n, by rw [upd_same]; simp⟩
  · obtain ⟨a, e1, r⟩ := S.cell k c e
    exact ⟨a, e1, r.mv m fun u hu => by rw [upd_ne (ne_of_none hu n)]; exact hu⟩
theorem Sim.mvMore (S : Sim K Acc μ ι H) {p : Addr} (n : H p = none) (o : HO) : Mv (Liv Acc μ ι) H (Liv (fun a => Acc a ∨ a = p) μ ι) (upd H p o) := fun a u e l => by
  refine ⟨by rw [upd_ne (ne_of_none e n)]; exact e, fun z => ?_⟩
  rcases z with z | z | z
  · exact l (.inl z)
  · exact l (.inr z)
  · subst z; rw [n] at e; cases e
theorem Sim.ownN (S : Sim K Acc μ ι H) {p : Addr} (n : H p = none) {ds : List D} {vs : List V} (r : Reps K (Liv Acc μ ι) H ds vs) : OwnR K Acc μ ι (upd H p (.lst vs)) (.new (.lst ds)) (.ref p) := fun q e => by
  cases e
  exact ⟨S.more n _, vs, upd_same, Reps.mv (S.mvMore n _) _ _ r⟩
theorem Sim.ownD (S : Sim K Acc μ ι H) {p : Addr} (n : H p = none) {ks : List Key} {ds : List D} {vs : List V} (l : ks.length = ds.length) (r : Reps K (Liv Acc μ ι) H ds vs) : OwnR K Acc μ ι (upd H p (.dK (ks.zip vs))) (.new (.dic ks ds)) (.ref p) := fun q e => by
  cases e
  exact ⟨S.more n _, vs, upd_same, l, Reps.mv (S.mvMore n _) _ _ r⟩
/-- what a value is seen as: a value with the content of a cell too -/
def SeeR (K : PySem.W.Frag) (L : Addr → Prop) (H : Hp) (d : D) (v : V) : Prop := match d with
  | .lst ds => ∃ a vs, v = .ref a ∧ H a = some (.lst vs) ∧ Reps K L H ds vs
  | .dic ks ds => ∃ a vs, v = .ref a ∧ H a = some (.dK (ks.zip vs)) ∧ ks.length = ds.length ∧ Reps K L H ds vs
  | d => Rep K L H d v
theorem SeeR.of {L : Addr → Prop} {d : D} {v : V} (h : Rep K L H d v) : SeeR K L H d v := by
  cases d with
  | lst ds => simp only [Rep] at h; obtain ⟨a, vs, e, t, n, r⟩ := h; exact ⟨a, vs, e, t, r⟩
  | dic ks ds => simp only [Rep] at h; obtain ⟨a, vs, e, t, n, l, r⟩ := h; exact ⟨a, vs, e, t, l, r⟩
  | _ => exact h
theorem SeeR.ofC {L : Addr → Prop} {c : CV} {a : Addr} (h : CvR K L H c a) : SeeR K L H c.toD (.ref a) := by
  cases c with
  | lst ds => obtain ⟨vs, e, r⟩ := h; exact ⟨a, vs, rfl, e, r⟩
  | dic ks ds => obtain ⟨vs, e, l, r⟩ := h; exact ⟨a, vs, rfl, e, l, r⟩
theorem see_ok {H0 : Hp} {e : EV} {d : D} {v : V} (S : Sim K Acc μ ι H) (r : EvR K (Liv Acc μ ι) ι H0 H e v) (h : e.see μ = some d) : SeeR K (Liv Acc μ ι) H d v := by
  cases e with
  | dat x => cases h; exact .of r
  | new c => cases h; obtain ⟨p, e, n, r⟩ := r; subst e; exact .ofC r
  | cel k =>
    obtain ⟨a, e, ev⟩ := r
    subst ev
    simp only [EV.see] at h
    cases hc : μ[k]? with
    | none => rw [hc] at h; cases h
    | some c =>
      rw [hc] at h
      cases h
      obtain ⟨b, e1, r⟩ := S.cell k c hc
      rw [e] at e1; cases e1
      exact .ofC r
end

/-! ### 3. names, constants -/
section
variable {K : PySem.W.Frag} {L : Addr → Prop} {H : Hp}
theorem rep_int {i : Int} : Rep K L H (.int i) (.int i) := by simp only [Rep]
theorem rep_bl {i : Bool} : Rep K L H (.bl i) (.bl i) := by simp only [Rep]
theorem rep_non : Rep K L H .non .non := by simp only [Rep]
theorem rep_str {x : Str} : Rep K L H (.str x) (.str x) := by simp only [Rep]
end
def eC (d : D) : SE := fun _ _ μ => .ok (.dat d) μ
def eV (i : Nat) : SE := fun _ ρ μ => match ρ[i]? with
  | some (some s) => .ok s.ev μ
  | _ => .bad
section
variable {X : Cx} {XC : Nat → Addr} {F : Fns} {W : WX}
theorem c_int {i : Int} {j pos} : PE X (.Constant (.int i) j pos) (rdE X.K XC F W (eC (.int i))) := PEimp pe_int fun σ H Q ⟨Acc, ι, ρ, μ, S, E, h⟩ =>
  h (V.int i) H (.refl S) ⟨rfl, trivial⟩
theorem c_bl {i : Bool} {j pos} : PE X (.Constant (.bool i) j pos) (rdE X.K XC F W (eC (.bl i))) := PEimp pe_bl fun σ H Q ⟨Acc, ι, ρ, μ, S, E, h⟩ =>
  h (V.bl i) H (.refl S) ⟨rfl, trivial⟩
theorem c_non {j pos} : PE X (.Constant .none j pos) (rdE X.K XC F W (eC .non)) := PEimp pe_non fun σ H Q ⟨Acc, ι, ρ, μ, S, E, h⟩ =>
  h (V.non) H (.refl S) ⟨rfl, trivial⟩
theorem c_str {x : Str} {j pos} : PE X (.Constant (.str x) j pos) (rdE X.K XC F W (eC (.str x))) := PEimp pe_str fun σ H Q ⟨Acc, ι, ρ, μ, S, E, h⟩ =>
  h (V.str x) H (.refl S) ⟨rfl, trivial⟩
theorem SvR.ev {K : PySem.W.Frag} {L : Addr → Prop} {ι : List Addr} {H0 H : Hp} {s : SV} {v : V} (h : SvR K L ι H s v) : EvR K L ι H0 H s.ev v := by
  cases s with
  | dat d => exact h
  | cel k => exact h
theorem SV.own {K : PySem.W.Frag} {Acc : Addr → Prop} {μ : Sto} {ι : List Addr} {H : Hp} (s : SV) {v : V} : OwnR K Acc μ ι H s.ev v := by
  cases s <;> trivial
theorem c_var {i : Nat} {x : Str} {pos : Pos} (hN : X.N[i]? = some x) (hv : Vis X.env.scope x) (hd : (x == ("__debug__" : Str)) = false) (hcd : (x == ("__classdict__" : Str)) = false) : PE X (.Name x pos) (rdE X.K XC F W (eV i)) :=
  PEimp (pe_var hN hv hd hcd) fun σ H Q ⟨Acc, ι, ρ, μ, S, E, h⟩ => by
    unfold eV at h
    cases e : ρ[i]? with
    | none => rw [e] at h; exact h.elim
    | some o =>
      cases o with
      | none => rw [e] at h; exact h.elim
      | some s =>
        rw [e] at h
        obtain ⟨v, e1, r⟩ := E.2 i s e
        exact ⟨v, e1, h v H (Stp.refl S) ⟨r.ev, s.own⟩⟩
/-- a constant of the module -/
theorem c_glob {x : Str} {v : V} {u : Value} {d : D} {pos : Pos} (hg : Gl X x) (hm : X.mg x = some u) (r : RelV v u) (rp : ∀ L H, Rep X.K L H d v) (hd : (x == ("__debug__" : Str)) = false) : PE X (.Name x pos) (rdE X.K XC F W (eC d)) :=
  PEimp (pe_glob hg hm r hd) fun σ H Q ⟨Acc, ι, ρ, μ, S, E, h⟩ => h v H (.refl S) ⟨rp _ _, trivial⟩
end

/-! ### 4. argument lists, displays -/
def evs : List SE → SA
  | [] => fun _ _ μ => .ok [] μ
  | f :: fs => fun F ρ μ => (f F ρ μ).bind fun v μ1 => (evs fs F ρ μ1).bind fun vs μ2 => .ok (v :: vs) μ2
def LIM : Nat := 1000000
theorem lim_ok {n : Nat} (h : n ≤ LIM) : n ≤ sizeLine := Nat.le_trans h (by decide)
def eTup (f : SA) : SE := fun F ρ μ => (f F ρ μ).bind fun vs μ1 => match frzs vs μ1 with
  | some (ds, μ2) => if ds.length ≤ LIM then .ok (.dat (.tup ds)) μ2 else .bad
  | none => .bad
def eLst (f : SA) : SE := fun F ρ μ => (f F ρ μ).bind fun vs μ1 => match frzs vs μ1 with
  | some (ds, μ2) => if ds.length ≤ LIM then .ok (.new (.lst ds)) μ2 else .bad
  | none => .bad
section
variable {K : PySem.W.Frag} {Acc : Addr → Prop} {ι : List Addr} {μ μ' : Sto} {H H0 : Hp}
/-- a cell is made still -/
theorem Sim.still (S : Sim K Acc μ ι H) {k : Nat} {c : Cell} (hc : μ[k]? = some c) : Stp K Acc ι μ H ι (μ.set k ⟨false, c.val⟩) H ∧ ∀ a, ι[k]? = some a → ¬ Liv Acc (μ.set k ⟨false, c.val⟩) ι a := by
  have hk : k < μ.length := (List.getElem?_eq_some_iff.mp hc).1
  have cl : ∀ a, Cel (μ.set k ⟨false, c.val⟩) ι a → Cel μ ι a := fun a ⟨j, c', e, l, h⟩ => by
    by_cases hj : k = j
    · subst hj
      rw [List.getElem?_set_self hk] at e
      cases e; cases l
    · rw [List.getElem?_set_ne hj] at e
      exact ⟨j, c', e, l, h⟩
  have m : Mv (Liv Acc μ ι) H (Liv Acc (μ.set k ⟨false, c.val⟩) ι) H := fun a o e n => ⟨e, fun z => n (z.elim (fun z => .inl (cl a z)) .inr)⟩
  refine ⟨⟨⟨by rw [List.length_set]; exact S.len, S.nd, S.acc, fun j c' e => ?_⟩, ⟨[], by simp, by simp⟩, fun a o e _ => e, fun a h => h, fun a h => .inl (cl a h)⟩, fun a ha z => ?_⟩
  · by_cases hj : k = j
    · subst hj
      rw [List.getElem?_set_self hk] at e
      cases e
      obtain ⟨a, e1, r⟩ := S.cell k c hc
      exact ⟨a, e1, r.mv m fun _ e => e⟩
    · rw [List.getElem?_set_ne hj] at e
      obtain ⟨a, e1, r⟩ := S.cell j c' e
      exact ⟨a, e1, r.mv m fun _ e => e⟩
  · rcases z with ⟨j, c', e, l, h⟩ | z
    · by_cases hj : k = j
      · subst hj
        rw [List.getElem?_set_self hk] at e
        cases e; cases l
      · have hi : k < ι.length := (List.getElem?_eq_some_iff.mp ha).1
        have : k = j := (List.getElem?_inj hi S.nd).mp (ha.trans h.symm)
        exact hj this
    · exact (S.acc a z).1 (List.mem_of_getElem? ha)
theorem CvR.rep {L : Addr → Prop} {c : CV} {a : Addr} (h : CvR K L H c a) (n : ¬ L a) : Rep K L H c.toD (.ref a) := by
  cases c with
  | lst ds => obtain ⟨vs, e, r⟩ := h; simp only [CV.toD, Rep]; exact ⟨a, vs, rfl, e, n, r⟩
  | dic ks ds => obtain ⟨vs, e, l, r⟩ := h; simp only [CV.toD, Rep]; exact ⟨a, vs, rfl, e, n, l, r⟩
theorem frz_ok {e : EV} {d : D} {v : V} {Hb : Hp} (S : Sim K Acc μ ι H) (hb : ∀ a ∈ ι, Hb a ≠ none) (hq : ∀ a, Acc a → Hb a ≠ none) (r : EvR K (Liv Acc μ ι) ι Hb H e v) (h : e.frz μ = some (d, μ')) :
    Stp K Acc ι μ H ι μ' H ∧ Rep K (Liv Acc μ' ι) H d v := by
  cases e with
  | dat x => cases h; exact ⟨.refl S, r⟩
  | new c =>
    cases h
    obtain ⟨p, e, n, r⟩ := r
    subst e
    refine ⟨.refl S, r.rep fun z => ?_⟩
    rcases z with z | z
    · exact hb p z.mem n
    · exact hq p z n
  | cel k =>
    obtain ⟨a, e, ev⟩ := r
    subst ev
    simp only [EV.frz] at h
    cases hc : μ[k]? with
    | none => rw [hc] at h; cases h
    | some c =>
      rw [hc] at h
      cases h
      obtain ⟨st, nl⟩ := S.still hc
      obtain ⟨b, e1, r⟩ := st.sim.cell k ⟨false, c.val⟩ (List.getElem?_set_self (List.getElem?_eq_some_iff.mp hc).1)
      rw [e] at e1; cases e1
      exact ⟨st, r.rep (nl a e)⟩
end
section
variable {K : PySem.W.Frag} {Acc : Addr → Prop} {ι : List Addr} {H Hb : Hp}
theorem EvsR.stay {μ μ' : Sto} (S : Sim K Acc μ ι H) (hb : ∀ a ∈ ι, Hb a ≠ none) (t : Stp K Acc ι μ H ι μ' H) : ∀ {es : List EV} {vs : List V}, EvsR K (Liv Acc μ ι) ι Hb H es vs → EvsR K (Liv Acc μ' ι) ι Hb H es vs
  | [], vs, h => h
  | e :: es, vs, h => by
    obtain ⟨v, r, e1, h1, h2⟩ := h
    refine ⟨v, r, e1, ?_, EvsR.stay S hb t h2⟩
    cases e with
    | dat d => exact Rep.mv (t.mv S) _ _ h1
    | cel k => exact h1
    | new c => obtain ⟨p, e, n, r⟩ := h1; exact ⟨p, e, n, r.mv (t.mv S) fun o ho => ho⟩
theorem frzs_ok : ∀ {es : List EV} {ds : List D} {vs : List V} {μ μ' : Sto}, Sim K Acc μ ι H → (∀ a ∈ ι, Hb a ≠ none) → (∀ a, Acc a → Hb a ≠ none) → EvsR K (Liv Acc μ ι) ι Hb H es vs → frzs es μ = some (ds, μ') →
    Stp K Acc ι μ H ι μ' H ∧ Reps K (Liv Acc μ' ι) H ds vs
  | [], ds, vs, μ, μ', S, hb, hq, r, h => by
    cases h
    have r : vs = [] := r
    subst r
    exact ⟨.refl S, Reps.nil⟩
  | e :: es, ds, vs, μ, μ', S, hb, hq, r, h => by
    obtain ⟨v, rs, e1, h1, h2⟩ := r
    subst e1
    unfold frzs at h
    cases hf : e.frz μ with
    | none => rw [hf] at h; cases h
    | some p =>
      obtain ⟨d, μ1⟩ := p
      rw [hf] at h
      simp only at h
      cases hg : frzs es μ1 with
      | none => rw [hg] at h; cases h
      | some q =>
        obtain ⟨ds', μ2⟩ := q
        rw [hg] at h
        cases h
        obtain ⟨t1, r1⟩ := frz_ok S hb hq h1 hf
        obtain ⟨t2, r2⟩ := frzs_ok t1.sim hb hq (h2.stay S hb t1) hg
        exact ⟨t1.trans t2, Reps.cons (Rep.mv (t2.mv t1.sim) _ _ r1) r2⟩
theorem Sim.accT {μ : Sto} (S : Sim K Acc μ ι H) : ∀ a, Acc a → H a ≠ none := fun a h => (S.acc a h).2
end
section
variable {X : Cx} {XC : Nat → Addr} {F : Fns} {W : WX} {e : Expr} {es : List Expr} {f : SE} {fs : List SE} {pos : Pos}
theorem ca_nil : PA X [] (rdA X.K XC F W (evs [])) := PAimp pa_nil fun σ H Q ⟨Acc, ι, ρ, μ, S, E, h⟩ => h [] H (.refl S) rfl
theorem ca_cons (ha : PE X e (rdE X.K XC F W f)) (hr : PA X es (rdA X.K XC F W (evs fs))) (hs : starEach (e :: es) X.env = (false, eval e X.env) :: starEach es X.env) : PA X (e :: es) (rdA X.K XC F W (evs (f :: fs))) :=
  PAimp (pa_cons ha hr hs) fun σ H Q ⟨Acc, ι, ρ, μ, S, E, h⟩ => by
    refine rd.bind (.refl S) E h fun v μ1 x H1 _ t1 r1 h1 => ?_
    refine rd.bind t1 (E.mv t1 S) h1 fun vs μ2 xs H2 _ t2 r2 h2 => ?_
    exact h2 (x :: xs) H2 (t1.trans t2) ⟨x, xs, rfl, EvR.mv t1 S t2 r1.1 rfl, EvsR.back t1 r2⟩

theorem c_tup {x1 : Nat} {fa : SA} (h : PA X es (rdA X.K XC F W fa)) : PE X (.Tuple es x1 pos) (rdE X.K XC F W (eTup fa)) :=
  PEimp (pe_tup h) fun σ H Q ⟨Acc, ι, ρ, μ, S, E, h⟩ => by
    refine rd.bind (.refl S) E h fun vs μ1 xs H1 _ t1 r1 h1 => ?_
    cases hf : frzs vs μ1 with
    | none => rw [hf] at h1; exact h1.elim
    | some p =>
      obtain ⟨ds, μ2⟩ := p
      rw [hf] at h1
      simp only at h1
      obtain ⟨t2, r2⟩ := frzs_ok t1.sim (fun a ha => S.trk ha) S.accT r1 hf
      by_cases hl : ds.length ≤ LIM
      · rw [if_pos hl] at h1
        refine ⟨by rw [r2.len]; exact lim_ok hl, fun p hp => h1 (.ref p) _ (t1.trans (t2.trans (t2.sim.up hp _))) ⟨t2.sim.newT hp r2, trivial⟩⟩
      · rw [if_neg hl] at h1; exact h1.elim
theorem c_lst {fa : SA} (h : PA X es (rdA X.K XC F W fa)) : PE X (.List es pos) (rdE X.K XC F W (eLst fa)) :=
  PEimp (pe_lst h) fun σ H Q ⟨Acc, ι, ρ, μ, S, E, h⟩ => by
    refine rd.bind (.refl S) E h fun vs μ1 xs H1 _ t1 r1 h1 => ?_
    cases hf : frzs vs μ1 with
    | none => rw [hf] at h1; exact h1.elim
    | some p =>
      obtain ⟨ds, μ2⟩ := p
      rw [hf] at h1
      simp only at h1
      obtain ⟨t2, r2⟩ := frzs_ok t1.sim (fun a ha => S.trk ha) S.accT r1 hf
      by_cases hl : ds.length ≤ LIM
      · rw [if_pos hl] at h1
        exact ⟨by rw [r2.len]; exact lim_ok hl, fun p hp => h1 (.ref p) _ (t1.trans (t2.trans (t2.sim.up hp _))) ⟨⟨p, rfl, (t1.trans t2).back hp, t2.sim.newL hp r2⟩, t2.sim.ownN hp r2⟩⟩
      · rw [if_neg hl] at h1; exact h1.elim
end

/-! ### 5. operators -/
def smallI (i : Int) : Bool := decide (-(2 ^ 64) < i) && decide (i < 2 ^ 64)
def opBin (op : Operator) (a b : D) : Option EV := match op, a, b with
  | .Add, .int i, .int j => some (.dat (.int (i + j)))
  | .Add, .str x, .str y => if x.length + y.length ≤ LIM then some (.dat (.str (x ++ y))) else none
  | .Add, .tup xs, .tup ys => if xs.length + ys.length ≤ LIM then some (.dat (.tup (xs ++ ys))) else none
  | .Add, .lst xs, .lst ys => if xs.length + ys.length ≤ LIM then some (.new (.lst (xs ++ ys))) else none
  | .Sub, .int i, .int j => some (.dat (.int (i - j)))
  | .Mult, .int i, .int j => if smallI i || smallI j then some (.dat (.int (i * j))) else none
  | .Mult, .lst xs, .int k => if 0 ≤ k ∧ k ≤ 1000000 ∧ xs.length * k.toNat ≤ LIM then some (.new (.lst (List.replicate k.toNat xs).flatten)) else none
  | .FloorDiv, .int i, .int j => if 0 < j ∧ j < 1073741824 then some (.dat (.int (i / j))) else none
  | .Mod, .int i, .int j => if 0 < j then some (.dat (.int (i % j))) else none
  | .Pow, .int i, .int j => if 0 ≤ j ∧ j ≤ 1000000 ∧ i.natAbs < 2 ^ 64 then some (.dat (.int (i ^ j.toNat))) else none
  | _, _, _ => none
def lift2 (f : D → D → Option EV) (a b : EV) (μ : Sto) : Res EV := match a.see μ, b.see μ with
  | some x, some y => match f x y with
    | some e => .ok e μ
    | none => .bad
  | _, _ => .bad
def eBin (op : Operator) (f g : SE) : SE := fun F ρ μ => (f F ρ μ).bind fun a μ1 => (g F ρ μ1).bind fun b μ2 => lift2 (opBin op) a b μ2
/-- what an operation on two values must give -/
def Op2 (K : PySem.W.Frag) (f : D → D → Option EV) (r : R2) : Prop :=
  ∀ (Acc : Addr → Prop) (ι : List Addr) (μ : Sto) (H : Hp) (a b : D) (x y : V) (e : EV) (Q : VK), Sim K Acc μ ι H → SeeR K (Liv Acc μ ι) H a x → SeeR K (Liv Acc μ ι) H b y → f a b = some e →
    (∀ v H', Stp K Acc ι μ H ι μ H' → relE K Acc μ ι H H' e v → Q v H') → r x y H Q
theorem lift2_ok {K : PySem.W.Frag} {XC : Nat → Addr} {W : WX} {Acc : Addr → Prop} {ι : List Addr} {μ μ0 : Sto} {H H0 : Hp} {σ : L2.St} {f : D → D → Option EV} {r : R2} {a b : EV} {x y : V} {Q : VK} (ho : Op2 K f r) (S0 : Sim K Acc μ0 ι H0) (t : Stp K Acc ι μ0 H0 ι μ H)
    (ra : EvR K (Liv Acc μ ι) ι H0 H a x) (rb : EvR K (Liv Acc μ ι) ι H0 H b y) (h : wp (relE K) K XC W Acc ι μ0 H0 σ (lift2 f a b μ) Q) : r x y H Q := by
  unfold lift2 at h
  cases ea : a.see μ with
  | none => rw [ea] at h; exact h.elim
  | some da =>
    cases eb : b.see μ with
    | none => rw [ea, eb] at h; exact h.elim
    | some db =>
      rw [ea, eb] at h
      simp only at h
      cases ef : f da db with
      | none => rw [ef] at h; exact h.elim
      | some e =>
        rw [ef] at h
        exact ho Acc ι μ H da db x y e Q t.sim (see_ok t.sim ra ea) (see_ok t.sim rb eb) ef fun v H' t' rv => h v H' (t.trans t') ⟨EvR.back t rv.1, rv.2⟩
section
variable {X : Cx} {XC : Nat → Addr} {F : Fns} {W : WX} {ea eb : Expr} {fa fb : SE} {pos : Pos}
theorem two_ok {K : PySem.W.Frag} {σ : L2.St} {H : Hp} {Q : VK} {f : D → D → Option EV} {r : R2} (ho : Op2 K f r)
    (h : rdE K XC F W (fun F ρ μ => (fa F ρ μ).bind fun a μ1 => (fb F ρ μ1).bind fun b μ2 => lift2 f a b μ2) σ H Q) : tOp r (rdE K XC F W fa) (rdE K XC F W fb) σ H Q := by
  obtain ⟨Acc, ι, ρ, μ, S, E, h⟩ := h
  refine rd.bind (.refl S) E h fun a μ1 x H1 _ t1 r1 h1 => ?_
  refine rd.bind t1 (E.mv t1 S) h1 fun b μ2 y H2 _ t2 r2 h2 => ?_
  exact lift2_ok ho S (t1.trans t2) (EvR.mv t1 S t2 r1.1 rfl) (EvR.back t1 r2.1) h2
theorem c_bin {op : Operator} {r : R2} (hr : OpR X (binaryOp op) r) (ho : Op2 X.K (opBin op) r) (ha : PE X ea (rdE X.K XC F W fa)) (hb : PE X eb (rdE X.K XC F W fb)) : PE X (.BinOp ea op eb pos) (rdE X.K XC F W (eBin op fa fb)) :=
  PEimp (pe_op hr ha hb) fun _ _ _ h => two_ok ho h
/-- a comparison as a value -/
def eCmp (f : D → D → Option Bool) (fa fb : SE) : SE := fun F ρ μ => (fa F ρ μ).bind fun a μ1 => (fb F ρ μ1).bind fun b μ2 => lift2 (fun x y => (f x y).map fun k => .dat (.bl k)) a b μ2
abbrev Cmp2 (K : PySem.W.Frag) (f : D → D → Option Bool) (r : R2) : Prop := Op2 K (fun x y => (f x y).map fun k => .dat (.bl k)) r
theorem c_cmp {op : CmpOp} {f : D → D → Option Bool} {r : R2} (hr : OpR X (compareOp op) r) (ho : Cmp2 X.K f r) (ha : PE X ea (rdE X.K XC F W fa)) (hb : PE X eb (rdE X.K XC F W fb)) (hm : behindInMarks op eb = false) : PE X (.Compare ea [op] [eb] pos) (rdE X.K XC F W (eCmp f fa fb)) :=
  PEimp (pe_cmpR hr ha hb hm) fun _ _ _ h => two_ok ho h
/-- a comparison as a test -/
def lift2B (f : D → D → Option Bool) (a b : EV) (μ : Sto) : Res Bool := match a.see μ, b.see μ with
  | some x, some y => match f x y with
    | some e => .ok e μ
    | none => .bad
  | _, _ => .bad
def bCmp (f : D → D → Option Bool) (fa fb : SE) : SB := fun F ρ μ => (fa F ρ μ).bind fun a μ1 => (fb F ρ μ1).bind fun b μ2 => lift2B f a b μ2
theorem lift2B_ok {K : PySem.W.Frag} {Acc : Addr → Prop} {ι : List Addr} {μ μ0 : Sto} {H H0 : Hp} {σ : L2.St} {f : D → D → Option Bool} {r : R2} {a b : EV} {x y : V} {Q : Bool → Hp → Prop} (ho : Cmp2 K f r) (S0 : Sim K Acc μ0 ι H0) (t : Stp K Acc ι μ0 H0 ι μ H)
    (ra : EvR K (Liv Acc μ ι) ι H0 H a x) (rb : EvR K (Liv Acc μ ι) ι H0 H b y) (h : wp relB K XC W Acc ι μ0 H0 σ (lift2B f a b μ) Q) : r x y H fun z H' => ∃ k, z = .bl k ∧ Q k H' := by
  unfold lift2B at h
  cases ea : a.see μ with
  | none => rw [ea] at h; exact h.elim
  | some da =>
    cases eb : b.see μ with
    | none => rw [ea, eb] at h; exact h.elim
    | some db =>
      rw [ea, eb] at h
      simp only at h
      cases ef : f da db with
      | none => rw [ef] at h; exact h.elim
      | some e =>
        rw [ef] at h
        exact ho Acc ι μ H da db x y (.dat (.bl e)) _ t.sim (see_ok t.sim ra ea) (see_ok t.sim rb eb) (by show Option.map _ (f da db) = _; rw [ef]; rfl) fun v H' t' rv => ⟨e, rv.1, h e H' (t.trans t') rfl⟩
theorem ct_cmp {op : CmpOp} {f : D → D → Option Bool} {r : R2} (hr : OpR X (compareOp op) r) (ho : Cmp2 X.K f r) (ha : PE X ea (rdE X.K XC F W fa)) (hb : PE X eb (rdE X.K XC F W fb)) (hm : behindInMarks op eb = false) : PT X (.Compare ea [op] [eb] pos) (rdB X.K XC F W (bCmp f fa fb)) :=
  PTimp (pt_cmpR hr ha hb hm) fun σ H Q ⟨Acc, ι, ρ, μ, S, E, h⟩ => by
    refine rd.bind (.refl S) E h fun a μ1 x H1 _ t1 r1 h1 => ?_
    refine rd.bind t1 (E.mv t1 S) h1 fun b μ2 y H2 _ t2 r2 h2 => ?_
    exact lift2B_ok ho S (t1.trans t2) (EvR.mv t1 S t2 r1.1 rfl) (EvR.back t1 r2.1) h2
end
end VM
/-! Operators on data: what the interpreter reckons, and that the machine does so. -/
namespace VM
open PySem L2

/-! ### 1. arithmetic -/
section
variable {K : PySem.W.Frag} {Acc : Addr → Prop} {ι : List Addr} {μ : Sto} {H : Hp}
theorem fin_dat {d : D} {v : V} {Q : VK} (S : Sim K Acc μ ι H) (q : ∀ v H', Stp K Acc ι μ H ι μ H' → relE K Acc μ ι H H' (.dat d) v → Q v H') (r : Rep K (Liv Acc μ ι) H d v) : Q v H := q v H (.refl S) ⟨r, trivial⟩
theorem fin_tup {ds : List D} {vs : List V} {Q : VK} (S : Sim K Acc μ ι H) (q : ∀ v H', Stp K Acc ι μ H ι μ H' → relE K Acc μ ι H H' (.dat (.tup ds)) v → Q v H') (r : Reps K (Liv Acc μ ι) H ds vs) {p : Addr} (n : H p = none) : Q (.ref p) (upd H p (.tup vs)) :=
  q _ _ (S.up n _) ⟨S.newT n r, trivial⟩
theorem fin_lst {ds : List D} {vs : List V} {Q : VK} (S : Sim K Acc μ ι H) (q : ∀ v H', Stp K Acc ι μ H ι μ H' → relE K Acc μ ι H H' (.new (.lst ds)) v → Q v H') (r : Reps K (Liv Acc μ ι) H ds vs) {p : Addr} (n : H p = none) : Q (.ref p) (upd H p (.lst vs)) :=
  q _ _ (S.up n _) ⟨⟨p, rfl, n, S.newL n r⟩, S.ownN n r⟩
theorem seeT {L : Addr → Prop} {ds : List D} {x : V} (h : SeeR K L H (.tup ds) x) : ∃ a vs, x = .ref a ∧ TupN K L H a vs ∧ Reps K L H ds vs := by
  have h : Rep K L H (.tup ds) x := h
  simpa only [Rep] using h
theorem seeL {L : Addr → Prop} {ds : List D} {x : V} (h : SeeR K L H (.lst ds) x) : ∃ a vs, x = .ref a ∧ H a = some (.lst vs) ∧ Reps K L H ds vs := h
theorem seeI {L : Addr → Prop} {i : Int} {x : V} (h : SeeR K L H (.int i) x) : x = .int i := h
theorem seeS {L : Addr → Prop} {i : Str} {x : V} (h : SeeR K L H (.str i) x) : x = .str i := h
theorem seeB {L : Addr → Prop} {i : Bool} {x : V} (h : SeeR K L H (.bl i) x) : x = .bl i := h
theorem seeN {L : Addr → Prop} {x : V} (h : SeeR K L H .non x) : x = .non := h
theorem Reps.flat {L : Addr → Prop} {ds : List D} {vs : List V} (r : Reps K L H ds vs) : ∀ k : Nat, Reps K L H (List.replicate k ds).flatten (List.replicate k vs).flatten
  | 0 => Reps.nil
  | k + 1 => by
    rw [List.replicate_succ, List.replicate_succ, List.flatten_cons, List.flatten_cons]
    exact r.app (Reps.flat r k)
end

def rAdd (K : PySem.W.Frag) : R2 := fun x y H Q => ((rI0 fun i j => .int (i + j)) x y H Q ∨ (∃ i j, x = .str i ∧ y = .str j ∧ i.length + j.length ≤ sizeLine ∧ Q (.str (i ++ j)) H)) ∨ rCatA K x y H Q ∨ rCat x y H Q
section
variable {X : Cx}
theorem or_add : OpR X (binaryOp .Add) (rAdd X.K) := by
  refine OpR.or (OpR.or op_add ?_) (OpR.or op_catA op_cat)
  intro pins s σ H x y v u Q I rx ry h
  obtain ⟨i, j, rfl, rfl, hz, q⟩ := h
  exact op_add_str pins s σ H _ _ v u Q I rx ry ⟨i, j, rfl, rfl, hz, q⟩
theorem o2_add : Op2 X.K (opBin .Add) (rAdd X.K) := by
  intro Acc ι μ H a b x y e Q S ra rb h q
  cases a <;> cases b <;> simp only [opBin, reduceCtorEq] at h
  · cases h
    rw [seeI ra, seeI rb]
    exact .inl (.inl ⟨_, _, rfl, rfl, fin_dat S q rep_int⟩)
  · rename_i i j
    split at h
    · rename_i hl
      cases h
      rw [seeS ra, seeS rb]
      exact .inl (.inr ⟨_, _, rfl, rfl, lim_ok hl, fin_dat S q rep_str⟩)
    · cases h
  · rename_i xs ys
    split at h
    · rename_i hl
      cases h
      obtain ⟨p, vs, rfl, tp, rp⟩ := seeT ra
      obtain ⟨p', ws, rfl, tp', rp'⟩ := seeT rb
      have r := rp.app rp'
      refine .inr (.inl ⟨p, p', vs, ws, rfl, rfl, tp.sq, tp'.sq, by rw [rp.len, rp'.len]; exact lim_ok hl, fun e => ?_, fun _ e => ?_, fun _ _ p2 n => fin_tup S q r n⟩)
      · subst e
        refine fin_dat S q ?_
        simp only [Rep]
        exact ⟨p', ws, rfl, tp', by simpa using r⟩
      · subst e
        refine fin_dat S q ?_
        simp only [Rep]
        exact ⟨p, vs, rfl, tp, by simpa using r⟩
    · cases h
  · rename_i xs ys
    split at h
    · rename_i hl
      cases h
      obtain ⟨p, vs, rfl, tp, rp⟩ := seeL ra
      obtain ⟨p', ws, rfl, tp', rp'⟩ := seeL rb
      exact .inr (.inr ⟨p, p', vs, ws, rfl, rfl, tp, tp', by rw [rp.len, rp'.len]; exact lim_ok hl, fun p2 n => fin_lst S q (rp.app rp') n⟩)
    · cases h
theorem o2_sub : Op2 X.K (opBin .Sub) (rI0 fun i j => .int (i - j)) := by
  intro Acc ι μ H a b x y e Q S ra rb h q
  cases a <;> cases b <;> simp only [opBin, reduceCtorEq] at h
  cases h
  rw [seeI ra, seeI rb]
  exact ⟨_, _, rfl, rfl, fin_dat S q rep_int⟩
def rMul : R2 := fun x y H Q => (rI CMul fun i j => .int (i * j)) x y H Q ∨ rRep x y H Q
theorem or_mul : OpR X (binaryOp .Mult) rMul := OpR.or op_mul op_rep
theorem smallI_iff {i : Int} : smallI i = true ↔ -(2 ^ 64) < i ∧ i < 2 ^ 64 := by
  unfold smallI
  simp
theorem o2_mul : Op2 X.K (opBin .Mult) rMul := by
  intro Acc ι μ H a b x y e Q S ra rb h q
  cases a <;> cases b <;> simp only [opBin, reduceCtorEq] at h
  · rename_i i j
    split at h
    · rename_i hs
      cases h
      rw [seeI ra, seeI rb]
      refine .inl ⟨_, _, rfl, rfl, ?_, fin_dat S q rep_int⟩
      rw [Bool.or_eq_true] at hs
      rcases hs with hs | hs
      · exact .inl (smallI_iff.mp hs)
      · exact .inr (smallI_iff.mp hs)
    · cases h
  · rename_i xs k
    split at h
    · rename_i hs
      cases h
      obtain ⟨h0, h1, h2⟩ := hs
      obtain ⟨p, vs, rfl, tp, rp⟩ := seeL ra
      rw [seeI rb]
      exact .inr ⟨p, k, vs, rfl, rfl, tp, by omega, by omega, by rw [rp.len]; exact lim_ok h2, fun p2 n => fin_lst S q (rp.flat _) n⟩
    · cases h
theorem o2_fdiv : Op2 X.K (opBin .FloorDiv) (rI CDiv fun i j => .int (i / j)) := by
  intro Acc ι μ H a b x y e Q S ra rb h q
  cases a <;> cases b <;> simp only [opBin, reduceCtorEq] at h
  split at h
  · rename_i hs
    cases h
    rw [seeI ra, seeI rb]
    exact ⟨_, _, rfl, rfl, hs, fin_dat S q rep_int⟩
  · cases h
theorem o2_mod : Op2 X.K (opBin .Mod) (rI (fun _ j => 0 < j) fun i j => .int (i % j)) := by
  intro Acc ι μ H a b x y e Q S ra rb h q
  cases a <;> cases b <;> simp only [opBin, reduceCtorEq] at h
  split at h
  · rename_i hs
    cases h
    rw [seeI ra, seeI rb]
    exact ⟨_, _, rfl, rfl, hs, fin_dat S q rep_int⟩
  · cases h
theorem o2_pow : Op2 X.K (opBin .Pow) (rI CPow fun i j => .int (i ^ j.toNat)) := by
  intro Acc ι μ H a b x y e Q S ra rb h q
  cases a <;> cases b <;> simp only [opBin, reduceCtorEq] at h
  split at h
  · rename_i hs
    cases h
    rw [seeI ra, seeI rb]
    exact ⟨_, _, rfl, rfl, hs, fin_dat S q rep_int⟩
  · cases h
end
/-- the operators that are served -/
theorem bin_ok (X : Cx) (op : Operator) : ∃ r, OpR X (binaryOp op) r ∧ Op2 X.K (opBin op) r := by
  cases op with
  | Add => exact ⟨_, or_add, o2_add⟩
  | Sub => exact ⟨_, op_sub, o2_sub⟩
  | Mult => exact ⟨_, or_mul, o2_mul⟩
  | FloorDiv => exact ⟨_, op_fdiv, o2_fdiv⟩
  | Mod => exact ⟨_, op_mod, o2_mod⟩
  | Pow => exact ⟨_, op_pow, o2_pow⟩
  | _ => exact ⟨fun _ _ _ _ => False, fun _ _ _ _ _ _ _ _ _ _ _ _ h => h.elim, fun _ _ _ _ a b _ _ _ _ _ _ _ h _ => by cases a <;> cases b <;> simp [opBin] at h⟩

/-! ### 2. == -/
mutual
def eqv : D → D → Bool
  | .non, .non => true
  | .bl a, .bl b => a == b
  | .bl a, .int j => (if a then 1 else 0) == j
  | .int i, .bl b => i == (if b then 1 else 0)
  | .int i, .int j => i == j
  | .str x, .str y => x.cps.toList == y.cps.toList
  | .lst xs, .lst ys => eqvs xs ys
  | .tup xs, .tup ys => eqvs xs ys
  | _, _ => false
def eqvs : List D → List D → Bool
  | [], [] => true
  | x :: xs, y :: ys => eqv x y && eqvs xs ys
  | _, _ => false
end
mutual
/-- what == may be asked of: nested at most n deep, texts of signs, no dict -/
def fits : Nat → D → Bool
  | _, .non => true
  | _, .bl _ => true
  | _, .int _ => true
  | _, .str x => x.cps.toList.all (· < 0x110000)
  | n + 1, .tup ds => fitsAll n ds
  | n + 1, .lst ds => fitsAll n ds
  | _, _ => false
def fitsAll : Nat → List D → Bool
  | _, [] => true
  | n, d :: ds => fits n d && fitsAll n ds
end
mutual
def D.py : D → PyData
  | .non => .none
  | .bl b => .bool b
  | .int i => .int i
  | .str x => .str x
  | .tup ds => .tuple (pys ds)
  | .lst ds => .list (pys ds)
  | .dic _ _ => .none
  | .scr _ => .none
def pys : List D → List PyData
  | [] => []
  | d :: ds => d.py :: pys ds
end
theorem str_beq {x y : Str} : (x == y) = (x.cps.toList == y.cps.toList) := by
  rw [Bool.eq_iff_iff, beq_iff_eq, beq_iff_eq]
  constructor
  · rintro rfl; rfl
  · intro h
    cases x; cases y
    congr 1
    exact Array.toList_inj.mp h
mutual
theorem eqv_py : ∀ (n m : Nat) (a b : D), fits n a = true → fits m b = true → PyData.eqv a.py b.py = eqv a b
  | n, m, a, b, ha, hb => by
    cases a with
    | dic _ _ => cases n <;> simp [fits] at ha
    | scr _ => cases n <;> simp [fits] at ha
    | tup xs =>
      cases b with
      | dic _ _ => cases m <;> simp [fits] at hb
      | scr _ => cases m <;> simp [fits] at hb
      | tup ys =>
        cases n with
        | zero => simp [fits] at ha
        | succ n =>
          cases m with
          | zero => simp [fits] at hb
          | succ m =>
            simp only [D.py, PyData.eqv, eqv]
            exact eqvs_py n m xs ys (by simpa [fits] using ha) (by simpa [fits] using hb)
      | _ => simp [D.py, PyData.eqv, eqv]
    | lst xs =>
      cases b with
      | dic _ _ => cases m <;> simp [fits] at hb
      | scr _ => cases m <;> simp [fits] at hb
      | lst ys =>
        cases n with
        | zero => simp [fits] at ha
        | succ n =>
          cases m with
          | zero => simp [fits] at hb
          | succ m =>
            simp only [D.py, PyData.eqv, eqv]
            exact eqvs_py n m xs ys (by simpa [fits] using ha) (by simpa [fits] using hb)
      | _ => simp [D.py, PyData.eqv, eqv]
    | str x =>
      cases b with
      | dic _ _ => cases m <;> simp [fits] at hb
      | scr _ => cases m <;> simp [fits] at hb
      | str y => simp only [D.py, PyData.eqv, eqv]; exact str_beq
      | _ => simp [D.py, PyData.eqv, eqv]
    | _ =>
      cases b with
      | dic _ _ => cases m <;> simp [fits] at hb
      | scr _ => cases m <;> simp [fits] at hb
      | _ => simp [D.py, PyData.eqv, eqv]
theorem eqvs_py : ∀ (n m : Nat) (a b : List D), fitsAll n a = true → fitsAll m b = true → PyData.eqvAll (pys a) (pys b) = eqvs a b
  | n, m, [], [], _, _ => by simp [pys, PyData.eqvAll, eqvs]
  | n, m, [], _ :: _, _, _ => by simp [pys, PyData.eqvAll, eqvs]
  | n, m, _ :: _, [], _, _ => by simp [pys, PyData.eqvAll, eqvs]
  | n, m, a :: as, b :: bs, ha, hb => by
    simp only [fitsAll, Bool.and_eq_true] at ha hb
    simp only [pys, PyData.eqvAll, eqvs, eqv_py n m a b ha.1 hb.1, eqvs_py n m as bs ha.2 hb.2]
end
mutual
theorem fits_lay : ∀ (n : Nat) (a : D), fits n a = true → a.py.canLay0 = true ∧ a.py.depth ≤ n
  | n, .non, h => by simp [D.py, PyData.canLay0, PyData.depth]
  | n, .bl _, h => by simp [D.py, PyData.canLay0, PyData.depth]
  | n, .int _, h => by simp [D.py, PyData.canLay0, PyData.depth]
  | n, .str x, h => by
    simp only [D.py, PyData.canLay0, PyData.depth, PyData.strOk]
    refine ⟨?_, Nat.zero_le _⟩
    have h' : x.cps.toList.all (fun c => decide (c < 0x110000)) = true := by cases n <;> simpa [fits] using h
    simpa [← Array.all_toList] using h'
  | 0, .tup ds, h => by simp [fits] at h
  | 0, .lst ds, h => by simp [fits] at h
  | n + 1, .tup ds, h => by
    obtain ⟨h1, h2⟩ := fitsAll_lay n ds (by simpa [fits] using h)
    simp only [D.py, PyData.canLay0, PyData.depth]
    exact ⟨h1, by omega⟩
  | n + 1, .lst ds, h => by
    obtain ⟨h1, h2⟩ := fitsAll_lay n ds (by simpa [fits] using h)
    simp only [D.py, PyData.canLay0, PyData.depth]
    exact ⟨h1, by omega⟩
  | n, .dic _ _, h => by cases n <;> simp [fits] at h
  | n, .scr _, h => by cases n <;> simp [fits] at h
theorem fitsAll_lay : ∀ (n : Nat) (a : List D), fitsAll n a = true → PyData.canLayAll0 (pys a) = true ∧ PyData.depthAll (pys a) ≤ n
  | n, [], h => by simp [pys, PyData.canLayAll0, PyData.depthAll]
  | n, a :: as, h => by
    simp only [fitsAll, Bool.and_eq_true] at h
    obtain ⟨h1, h2⟩ := fits_lay n a h.1
    obtain ⟨h3, h4⟩ := fitsAll_lay n as h.2
    simp only [pys, PyData.canLayAll0, PyData.depthAll, h1, h3, Bool.and_self, true_and]
    exact Nat.max_le.mpr ⟨h2, h4⟩
end
theorem fits_shaped {a : D} (h : fits 64 a = true) : SeqAt.shaped a.py = true := by
  obtain ⟨h1, h2⟩ := fits_lay 64 a h
  unfold SeqAt.shaped
  rw [h1, decide_eq_true h2]
  rfl
mutual
theorem Rep.dp {K : PySem.W.Frag} {L : Addr → Prop} {H : Hp} : ∀ (n : Nat) (d : D) (v : V), fits n d = true → Rep K L H d v → Dp K H v d.py
  | n, .non, v, h, r => by simp only [Rep] at r; subst r; simp only [D.py]; exact .non
  | n, .bl b, v, h, r => by simp only [Rep] at r; subst r; simp only [D.py]; exact .bl b
  | n, .int b, v, h, r => by simp only [Rep] at r; subst r; simp only [D.py]; exact .int b
  | n, .str b, v, h, r => by simp only [Rep] at r; subst r; simp only [D.py]; exact .str b
  | 0, .tup ds, v, h, r => by simp [fits] at h
  | 0, .lst ds, v, h, r => by simp [fits] at h
  | n + 1, .tup ds, v, h, r => by
    simp only [Rep] at r
    obtain ⟨a, vs, rfl, t, r⟩ := r
    simp only [D.py]
    exact .tup t.sq (Reps.dp n ds vs (by simpa [fits] using h) r)
  | n + 1, .lst ds, v, h, r => by
    simp only [Rep] at r
    obtain ⟨a, vs, rfl, t, _, r⟩ := r
    simp only [D.py]
    exact .lst (SqL.of t) (Reps.dp n ds vs (by simpa [fits] using h) r)
  | n, .dic _ _, v, h, r => by cases n <;> simp [fits] at h
  | n, .scr _, v, h, r => by cases n <;> simp [fits] at h
theorem Reps.dp {K : PySem.W.Frag} {L : Addr → Prop} {H : Hp} : ∀ (n : Nat) (ds : List D) (vs : List V), fitsAll n ds = true → Reps K L H ds vs → DpAll K H vs (pys ds)
  | n, [], vs, h, r => by rw [r.invN]; simp only [pys]; exact .nil
  | n, d :: ds, vs, h, r => by
    obtain ⟨v, rs, rfl, h1, h2⟩ := r.inv
    simp only [fitsAll, Bool.and_eq_true] at h
    simp only [pys]
    exact .cons (Rep.dp n d v h.1 h1) (Reps.dp n ds rs h.2 h2)
end
theorem SeeR.dp {K : PySem.W.Frag} {L : Addr → Prop} {H : Hp} {d : D} {v : V} (h : fits 64 d = true) (r : SeeR K L H d v) : Dp K H v d.py := by
  cases d with
  | lst ds =>
    obtain ⟨a, vs, rfl, t, r⟩ := r
    simp only [D.py]
    exact .lst (SqL.of t) (Reps.dp 63 ds vs (by simpa [fits] using h) r)
  | dic _ _ => simp [fits] at h
  | _ => exact Rep.dp (L := L) 64 _ v h r
/-- two texts -/
def txEq (a b : D) : Option Bool := match a, b with
  | .str x, .str y => some (x.cps.toList == y.cps.toList)
  | _, _ => none
/-- ==: texts at once, the rest where it fits -/
def lenNe (a b : D) : Bool := match a, b with
  | .lst x, .lst y => x.length != y.length
  | _, _ => false
def opEq (a b : D) : Option Bool := match txEq a b with
  | some k => some k
  | none => if fits 64 a && fits 64 b then some (eqv a b) else if lenNe a b then some false else none
section
variable {X : Cx}
theorem txEq_ok {K : PySem.W.Frag} {L : Addr → Prop} {H : Hp} {a b : D} {x y : V} {k : Bool} (h : txEq a b = some k) (ra : SeeR K L H a x) (rb : SeeR K L H b y) : scal x y = true ∧ k = decide (x = y) := by
  cases a <;> cases b <;> simp only [txEq, reduceCtorEq] at h
  cases h
  rename_i i j
  rw [seeS ra, seeS rb]
  refine ⟨rfl, ?_⟩
  rw [dec_str, str_beq]
/-- two lists of unlike lengths -/
def rLens (K : PySem.W.Frag) (b : Bool) : R2 := fun x y H Q => ∃ (p q : Addr) (xs ys : List V), x = .ref p ∧ y = .ref q ∧ SqL K H p xs ∧ SqL K H q ys ∧ xs.length ≠ ys.length ∧ Q (.bl b) H
theorem len_eq (hu : X.A.units + 64 < cLine) : OpR X (compareOp .Eq) (rLens X.K false) := by
  intro pins s σ H x y v u Q I rx ry h
  obtain ⟨p, q, xs, ys, rfl, rfl, hp, hq, hn, hQ⟩ := h
  obtain rfl : v = Value.ref p := rx
  obtain rfl : u = Value.ref q := ry
  obtain ⟨its, r1, l1, _⟩ := I.list hp
  obtain ⟨its2, r2, l2, _⟩ := I.list hq
  refine SeqAt.RcAt.lists_lengths l1.isList l2.isList ?_ (by omega) X.prog X.w _ _ ⟨.bl false, H, I, rfl, hQ⟩
  rw [bne_iff_ne, List.size_toArray, List.size_toArray, ← r1.length, ← r2.length]
  exact hn
theorem len_ne (hu : X.A.units + 64 < cLine) : OpR X (compareOp .NotEq) (rLens X.K true) := by
  intro pins s σ H x y v u Q I rx ry h
  obtain ⟨p, q, xs, ys, rfl, rfl, hp, hq, hn, hQ⟩ := h
  obtain rfl : v = Value.ref p := rx
  obtain rfl : u = Value.ref q := ry
  obtain ⟨its, r1, l1, _⟩ := I.list hp
  obtain ⟨its2, r2, l2, _⟩ := I.list hq
  refine SeqAt.RcNeAt.lists_lengths l1.isList l2.isList ?_ (by omega) X.prog X.w _ _ ⟨.bl true, H, I, rfl, hQ⟩
  rw [bne_iff_ne, List.size_toArray, List.size_toArray, ← r1.length, ← r2.length]
  exact hn
theorem lenNe_ok {K : PySem.W.Frag} {L : Addr → Prop} {H : Hp} {a b : D} {x y : V} (h : lenNe a b = true) (ra : SeeR K L H a x) (rb : SeeR K L H b y) : ∃ (p q : Addr) (xs ys : List V), x = .ref p ∧ y = .ref q ∧ SqL K H p xs ∧ SqL K H q ys ∧ xs.length ≠ ys.length := by
  cases a <;> cases b <;> simp only [lenNe, reduceCtorEq] at h
  obtain ⟨p, xs, rfl, tp, rp⟩ := seeL ra
  obtain ⟨q, ys, rfl, tq, rq⟩ := seeL rb
  refine ⟨p, q, xs, ys, rfl, rfl, SqL.of tp, SqL.of tq, ?_⟩
  rw [rp.len, rq.len]
  simpa using h
theorem o2_eq : Cmp2 X.K opEq (fun x y H Q => rEq x y H Q ∨ (rEqD X.K x y H Q ∨ rLens X.K false x y H Q)) := by
  intro Acc ι μ H a b x y e Q S ra rb h q
  simp only [opEq] at h
  cases ht : txEq a b with
  | some k =>
    rw [ht] at h
    cases h
    obtain ⟨h1, h2⟩ := txEq_ok ht ra rb
    refine .inl ⟨h1, ?_⟩
    rw [← h2]
    exact fin_dat S q rep_bl
  | none =>
    rw [ht] at h
    simp only at h
    by_cases hf : (fits 64 a && fits 64 b) = true
    · rw [if_pos hf] at h
      cases h
      rw [Bool.and_eq_true] at hf
      refine .inr (.inl ⟨a.py, b.py, ra.dp hf.1, rb.dp hf.2, fits_shaped hf.1, fits_shaped hf.2, ?_⟩)
      rw [eqv_py 64 64 a b hf.1 hf.2]
      exact fin_dat S q rep_bl
    · rw [if_neg hf] at h
      by_cases hl : lenNe a b = true
      · rw [if_pos hl] at h
        cases h
        obtain ⟨p, p', xs, ys, e1, e2, t1, t2, ne⟩ := lenNe_ok hl ra rb
        exact .inr (.inr ⟨p, p', xs, ys, e1, e2, t1, t2, ne, fin_dat S q rep_bl⟩)
      · rw [if_neg hl] at h; cases h
theorem o2_ne : Cmp2 X.K (fun a b => (opEq a b).map (!·)) (fun x y H Q => rNe x y H Q ∨ (rNeD X.K x y H Q ∨ rLens X.K true x y H Q)) := by
  intro Acc ι μ H a b x y e Q S ra rb h q
  simp only [opEq] at h
  cases ht : txEq a b with
  | some k =>
    rw [ht] at h
    cases h
    obtain ⟨h1, h2⟩ := txEq_ok ht ra rb
    refine .inl ⟨h1, ?_⟩
    rw [← h2]
    exact fin_dat S q rep_bl
  | none =>
    rw [ht] at h
    simp only at h
    by_cases hf : (fits 64 a && fits 64 b) = true
    · rw [if_pos hf] at h
      cases h
      rw [Bool.and_eq_true] at hf
      refine .inr (.inl ⟨a.py, b.py, ra.dp hf.1, rb.dp hf.2, fits_shaped hf.1, fits_shaped hf.2, ?_⟩)
      rw [eqv_py 64 64 a b hf.1 hf.2]
      exact fin_dat S q rep_bl
    · rw [if_neg hf] at h
      by_cases hl : lenNe a b = true
      · rw [if_pos hl] at h
        cases h
        obtain ⟨p, p', xs, ys, e1, e2, t1, t2, ne⟩ := lenNe_ok hl ra rb
        exact .inr (.inr ⟨p, p', xs, ys, e1, e2, t1, t2, ne, fin_dat S q rep_bl⟩)
      · rw [if_neg hl] at h; cases h
end
end VM
/-! Comparisons, truth, and/or, subscripts. -/
namespace VM
open PySem L2 PyProof.Rows

/-! ### 1. comparisons of ints; is; in -/
def opI (f : Int → Int → Bool) (a b : D) : Option Bool := match a, b with
  | .int i, .int j => some (f i j)
  | _, _ => none
section
variable {X : Cx}
theorem o2_int {f : Int → Int → Bool} : Cmp2 X.K (opI f) (rI0 fun i j => .bl (f i j)) := by
  intro Acc ι μ H a b x y e Q S ra rb h q
  cases a <;> cases b <;> simp only [opI, Option.map_none, Option.map_some, reduceCtorEq] at h
  cases h
  rw [seeI ra, seeI rb]
  exact ⟨_, _, rfl, rfl, fin_dat S q rep_bl⟩
/-- x is None, True, False -/
def D.isNon : D → Bool
  | .non => true
  | _ => false
def opIs (a b : D) : Option Bool := match b with
  | .non => some a.isNon
  | .bl j => match a with
    | .bl i => some (i == j)
    | .int _ => some false
    | .str _ => some false
    | .non => some false
    | _ => none
  | _ => none
def rIs1 : R2 := fun x y H Q => y = .non ∧ Q (.bl (decide (x = .non))) H
def rIs2 : R2 := fun x y H Q => ∃ j, y = .bl j ∧ ((∃ i, x = .bl i) ∨ (∃ i, x = .int i) ∨ (∃ i, x = .str i) ∨ x = .non) ∧ Q (.bl (decide (x = .bl j))) H
def rNot2 : R2 := fun x y H Q => ∃ j, y = .bl j ∧ ((∃ i, x = .bl i) ∨ (∃ i, x = .int i) ∨ (∃ i, x = .str i) ∨ x = .non) ∧ Q (.bl (!decide (x = .bl j))) H
theorem op_is2 : OpR X (compareOp .Is) rIs2 := by
  intro pins s σ H x y v u Q I rx ry h
  obtain ⟨j, rfl, hx, q⟩ := h
  cases (show u = Value.bool j from ry)
  rcases hx with ⟨i, rfl⟩ | ⟨i, rfl⟩ | ⟨i, rfl⟩ | rfl
  · cases (show v = Value.bool i from rx)
    by_cases e : i = j
    · subst e
      exact wpAny_is_self rfl ⟨.bl true, H, I, rfl, by simpa using q⟩
    · exact wpAny_is_other rfl (fun z => e (Value.bool.inj z)) ⟨.bl false, H, I, rfl, by simpa [e] using q⟩
  · obtain ⟨t, rfl⟩ := rx
    exact wpAny_is_other rfl (fun z => by cases z) ⟨.bl false, H, I, rfl, by simpa using q⟩
  · obtain ⟨t, rfl⟩ := rx
    exact wpAny_is_other rfl (fun z => by cases z) ⟨.bl false, H, I, rfl, by simpa using q⟩
  · cases (show v = Value.none from rx)
    exact wpAny_is_other rfl (fun z => by cases z) ⟨.bl false, H, I, rfl, by simpa using q⟩
theorem op_not2 : OpR X (compareOp .IsNot) rNot2 := by
  intro pins s σ H x y v u Q I rx ry h
  obtain ⟨j, rfl, hx, q⟩ := h
  cases (show u = Value.bool j from ry)
  rcases hx with ⟨i, rfl⟩ | ⟨i, rfl⟩ | ⟨i, rfl⟩ | rfl
  · cases (show v = Value.bool i from rx)
    by_cases e : i = j
    · subst e
      exact wpAny_isNot_self rfl ⟨.bl false, H, I, rfl, by simpa using q⟩
    · exact wpAny_isNot_other rfl (fun z => e (Value.bool.inj z)) ⟨.bl true, H, I, rfl, by simpa [e] using q⟩
  · obtain ⟨t, rfl⟩ := rx
    exact wpAny_isNot_other rfl (fun z => by cases z) ⟨.bl true, H, I, rfl, by simpa using q⟩
  · obtain ⟨t, rfl⟩ := rx
    exact wpAny_isNot_other rfl (fun z => by cases z) ⟨.bl true, H, I, rfl, by simpa using q⟩
  · cases (show v = Value.none from rx)
    exact wpAny_isNot_other rfl (fun z => by cases z) ⟨.bl true, H, I, rfl, by simpa using q⟩
theorem see_none {K : PySem.W.Frag} {L : Addr → Prop} {H : Hp} {d : D} {x : V} (r : SeeR K L H d x) : decide (x = .non) = d.isNon := by
  cases d with
  | non => rw [seeN r]; rfl
  | bl _ => rw [seeB r]; rfl
  | int _ => rw [seeI r]; rfl
  | str _ => rw [seeS r]; rfl
  | tup _ => obtain ⟨a, vs, rfl, _⟩ := seeT r; rfl
  | lst _ => obtain ⟨a, vs, rfl, _⟩ := r; rfl
  | dic _ _ => obtain ⟨a, vs, rfl, _⟩ := r; rfl
  | scr _ => obtain ⟨a, rfl, _⟩ := (by simpa only [SeeR, Rep] using r : ∃ a, x = .ref a ∧ _); rfl
theorem o2_is : Cmp2 X.K opIs (fun x y H Q => (y = .non ∧ Q (.bl (decide (x = .non))) H) ∨ rIs2 x y H Q) := by
  intro Acc ι μ H a b x y e Q S ra rb h q
  cases b <;> simp only [opIs, Option.map_none, reduceCtorEq] at h
  · cases h
    refine .inl ⟨seeN rb, ?_⟩
    rw [see_none ra]
    exact fin_dat S q rep_bl
  · rename_i j
    refine .inr ⟨j, seeB rb, ?_⟩
    cases a <;> simp only [Option.map_none, Option.map_some, reduceCtorEq] at h
    · cases h; rw [seeN ra]; exact ⟨.inr (.inr (.inr rfl)), by simpa using fin_dat S q rep_bl⟩
    · rename_i i
      cases h; rw [seeB ra]; refine ⟨.inl ⟨_, rfl⟩, ?_⟩
      have z : decide (V.bl i = V.bl j) = (i == j) := by rw [Bool.eq_iff_iff]; simp
      rw [z]; exact fin_dat S q rep_bl
    · cases h; rw [seeI ra]; exact ⟨.inr (.inl ⟨_, rfl⟩), by simpa using fin_dat S q rep_bl⟩
    · cases h; rw [seeS ra]; exact ⟨.inr (.inr (.inl ⟨_, rfl⟩)), by simpa using fin_dat S q rep_bl⟩
theorem o2_isnot : Cmp2 X.K (fun a b => (opIs a b).map (!·)) (fun x y H Q => (y = .non ∧ Q (.bl (!decide (x = .non))) H) ∨ rNot2 x y H Q) := by
  intro Acc ι μ H a b x y e Q S ra rb h q
  cases b <;> simp only [opIs, Option.map_none, reduceCtorEq] at h
  · cases h
    refine .inl ⟨seeN rb, ?_⟩
    rw [see_none ra]
    exact fin_dat S q rep_bl
  · rename_i j
    refine .inr ⟨j, seeB rb, ?_⟩
    cases a <;> simp only [Option.map_none, Option.map_some, reduceCtorEq] at h
    · cases h; rw [seeN ra]; exact ⟨.inr (.inr (.inr rfl)), by simpa using fin_dat S q rep_bl⟩
    · rename_i i
      cases h; rw [seeB ra]; refine ⟨.inl ⟨_, rfl⟩, ?_⟩
      have z : decide (V.bl i = V.bl j) = (i == j) := by rw [Bool.eq_iff_iff]; simp
      rw [z]; exact fin_dat S q rep_bl
    · cases h; rw [seeI ra]; exact ⟨.inr (.inl ⟨_, rfl⟩), by simpa using fin_dat S q rep_bl⟩
    · cases h; rw [seeS ra]; exact ⟨.inr (.inr (.inl ⟨_, rfl⟩)), by simpa using fin_dat S q rep_bl⟩
end

/-! ### 2. keys, dicts looked up -/
def D.key : D → Option Key
  | .int i => some (.inl i)
  | .str x => some (.inr x)
  | _ => none
def keyEq (a b : Key) : Bool := match a, b with
  | .inl i, .inl j => i == j
  | .inr x, .inr y => x.cps.toList == y.cps.toList
  | _, _ => false
theorem keyEq_iff {a b : Key} : keyEq a b = true ↔ a = b := by
  cases a with
  | inl i => cases b with
    | inl j => simp [keyEq]
    | inr y => simp [keyEq]
  | inr x => cases b with
    | inl j => simp [keyEq]
    | inr y =>
      show (x.cps.toList == y.cps.toList) = true ↔ _
      rw [← str_beq, beq_iff_eq]
      simp
def dget : List Key → List D → Key → Option D
  | k :: ks, d :: ds, j => if keyEq k j then some d else dget ks ds j
  | _, _, _ => none
def dhas (ks : List Key) (j : Key) : Bool := ks.any fun k => keyEq k j
def dput : List Key → List D → Key → D → List Key × List D
  | k :: ks, d :: ds, j, e => if keyEq k j then (k :: ks, e :: ds) else ((k :: (dput ks ds j e).1), (d :: (dput ks ds j e).2))
  | _, _, j, e => ([j], [e])
section
variable {K : PySem.W.Frag} {L : Addr → Prop} {H : Hp}
theorem key_rep {d : D} {k : Key} {v : V} (h : d.key = some k) (r : SeeR K L H d v) : v = kV k := by
  cases d <;> simp only [D.key, reduceCtorEq] at h
  · cases h; exact seeI r
  · cases h; exact seeS r
theorem val_get : ∀ {ks : List Key} {ds : List D} {vs : List V} {k : Key}, ks.length = ds.length → Reps K L H ds vs → match dget ks ds k with
    | some d => ∃ v, valV (ks.zip vs) k = some v ∧ Rep K L H d v
    | none => valV (ks.zip vs) k = none
  | [], [], vs, k, hl, r => by rw [r.invN]; rfl
  | [], _ :: _, vs, k, hl, r => by cases hl
  | _ :: _, [], vs, k, hl, r => by cases hl
  | a :: ks, d :: ds, vs, k, hl, r => by
    obtain ⟨v, rs, rfl, h1, h2⟩ := r.inv
    rw [List.zip_cons_cons]
    unfold dget
    by_cases e : keyEq a k = true
    · rw [if_pos e]
      exact ⟨v, valV_pos (keyEq_iff.mp e), h1⟩
    · rw [if_neg e, valV_neg (fun z => e (keyEq_iff.mpr z))]
      exact val_get (by simpa using hl) h2
theorem val_has {ks : List Key} {ds : List D} {vs : List V} {k : Key} (hl : ks.length = ds.length) (r : Reps K L H ds vs) : (valV (ks.zip vs) k).isSome = dhas ks k := by
  rw [← valV_any]
  have hv : vs.length = ks.length := by rw [r.len, hl]
  unfold dhas
  have e : ∀ (ks : List Key) (vs : List V), vs.length = ks.length → ((ks.zip vs).any fun kv => decide (kv.1 = k)) = ks.any fun a => keyEq a k := by
    intro ks
    induction ks with
    | nil => intro vs _; rfl
    | cons a ks ih =>
      intro vs hv
      cases vs with
      | nil => cases hv
      | cons v vs =>
        rw [List.zip_cons_cons, List.any_cons, List.any_cons, ih vs (by simpa using hv)]
        congr 1
        rw [Bool.eq_iff_iff, decide_eq_true_iff, keyEq_iff]
  exact e ks vs hv
theorem dput_len : ∀ {ks : List Key} {ds : List D} {k : Key} {d : D}, ks.length = ds.length → (dput ks ds k d).1.length = (dput ks ds k d).2.length
  | [], [], k, d, _ => rfl
  | [], _ :: _, k, d, h => by cases h
  | _ :: _, [], k, d, h => by cases h
  | a :: ks, b :: ds, k, d, h => by
    unfold dput
    by_cases e : keyEq a k = true
    · rw [if_pos e]; simpa using h
    · rw [if_neg e]
      simpa using dput_len (k := k) (d := d) (by simpa using h)
/-- no key twice: what the store of a key does -/
theorem val_put : ∀ {ks : List Key} {ds : List D} {vs : List V} {k : Key} {d : D} {v : V}, ks.Nodup → ks.length = ds.length → Reps K L H ds vs → Rep K L H d v →
    ∃ ws, putK (ks.zip vs) k v = (dput ks ds k d).1.zip ws ∧ Reps K L H (dput ks ds k d).2 ws
  | [], [], vs, k, d, v, _, hl, r, rd => by
    rw [r.invN]
    exact ⟨[v], rfl, Reps.cons rd Reps.nil⟩
  | [], _ :: _, vs, k, d, v, _, hl, r, rd => by cases hl
  | _ :: _, [], vs, k, d, v, _, hl, r, rd => by cases hl
  | a :: ks, b :: ds, vs, k, d, v, nd, hl, r, rd => by
    obtain ⟨w, rs, rfl, h1, h2⟩ := r.inv
    rw [List.zip_cons_cons]
    obtain ⟨na, nks⟩ := List.nodup_cons.mp nd
    unfold dput
    by_cases e : keyEq a k = true
    · rw [if_pos e]
      have e' := keyEq_iff.mp e
      refine ⟨v :: rs, ?_, Reps.cons rd h2⟩
      unfold putK
      have ha : (((a, w) :: ks.zip rs).any fun kv => decide (kv.1 = k)) = true := by rw [List.any_cons, decide_eq_true e']; rfl
      rw [if_pos ha, List.map_cons, if_pos e', List.zip_cons_cons]
      congr 1
      have : ∀ p ∈ ks.zip rs, (if p.1 = k then (p.1, v) else p) = p := fun p hp => by
        rw [if_neg]
        intro z
        refine na ?_
        rw [e', ← z]
        exact (List.of_mem_zip (a := p.1) (b := p.2) hp).1
      calc (ks.zip rs).map _ = (ks.zip rs).map id := List.map_congr_left this
        _ = ks.zip rs := List.map_id _
    · rw [if_neg e]
      have e' : ¬ a = k := fun z => e (keyEq_iff.mpr z)
      obtain ⟨ws, h3, h4⟩ := val_put (k := k) nks (by simpa using hl) h2 rd
      refine ⟨w :: ws, ?_, Reps.cons h1 h4⟩
      show _ = (a, w) :: ((dput ks ds k d).1.zip ws)
      rw [← h3]
      unfold putK
      rw [List.any_cons, decide_eq_false e', Bool.false_or]
      by_cases z : ((ks.zip rs).any fun kv => decide (kv.1 = k)) = true
      · rw [if_pos z, if_pos z, List.map_cons, if_neg e']
      · rw [if_neg z, if_neg z, List.cons_append]
end
def ndK (ks : List Key) : Bool := match ks with
  | [] => true
  | k :: r => !(dhas r k) && ndK r
theorem ndK_ok : ∀ {ks : List Key}, ndK ks = true → ks.Nodup
  | [], _ => List.nodup_nil
  | k :: r, h => by
    unfold ndK at h
    rw [Bool.and_eq_true, Bool.not_eq_true'] at h
    refine List.nodup_cons.mpr ⟨fun hm => ?_, ndK_ok h.2⟩
    have : dhas r k = true := by
      unfold dhas
      rw [List.any_eq_true]
      exact ⟨k, hm, keyEq_iff.mpr rfl⟩
    rw [this] at h
    exact absurd h.1 (by simp)

/-! ### 3. in -/
def sgnIn (x z : Str) : Option Bool := match x.cps.toList with
  | [c] => some (z.cps.toList.contains c)
  | _ => none
def opIn (a b : D) : Option Bool := match b with
  | .str z => match a with
    | .str x => sgnIn x z
    | _ => none
  | .lst ds => if fits 64 a && fitsAll 63 ds then some (ds.any fun d => eqv d a) else none
  | .tup ds => if fits 0 a && fitsAll 0 ds then some (ds.any fun d => eqv d a) else none
  | .dic ks _ => match a.key with
    | some k => some (dhas ks k)
    | none => none
  | _ => none
section
variable {X : Cx}
def rInDic : R2 := fun x y H Q => ∃ a o, y = .ref a ∧ DGet H a x o ∧ Q (.bl o.isSome) H
def rNotInDic : R2 := fun x y H Q => ∃ a o, y = .ref a ∧ DGet H a x o ∧ Q (.bl (!o.isSome)) H
theorem op_inDic (hu : X.A.units + 1 < cLine) : OpR X (compareOp .In) rInDic := by
  intro pins s σ H x y v u Q I rx ry h
  obtain ⟨a, o, rfl, g, q⟩ := h
  cases (show u = Value.ref a from ry)
  exact d_in hu I g rx fun s' I' => ⟨.bl _, H, I', rfl, q⟩
theorem op_notInDic (hu : X.A.units + 1 < cLine) : OpR X (compareOp .NotIn) rNotInDic := by
  intro pins s σ H x y v u Q I rx ry h
  obtain ⟨a, o, rfl, g, q⟩ := h
  cases (show u = Value.ref a from ry)
  exact d_notIn hu I g rx fun s' I' => ⟨.bl _, H, I', rfl, q⟩
def rSgn (neg : Bool) : R2 := fun x y H Q => ∃ (c : Nat) (z : Str), x = .str ⟨#[c]⟩ ∧ y = .str z ∧ Q (.bl (if neg then !decide (c ∈ z.cps.toList) else decide (c ∈ z.cps.toList))) H
def rInAll (K : PySem.W.Frag) : R2 := fun x y H Q => (rSgn false x y H Q ∨ rInD K x y H Q) ∨ (rIn K false x y H Q ∨ rInDic x y H Q)
def rNotInAll (K : PySem.W.Frag) : R2 := fun x y H Q => (rSgn true x y H Q ∨ rNotInD K x y H Q) ∨ (rIn K true x y H Q ∨ rNotInDic x y H Q)
theorem or_in (hu : X.A.units + 65 < cLine) : OpR X (compareOp .In) (rInAll X.K) :=
  OpR.or (OpR.or (fun pins s σ H x y v u Q I rx ry ⟨c, z, e1, e2, q⟩ => op_in_sign pins s σ H x y v u Q I rx ry ⟨c, z, e1, e2, q⟩) (op_inD hu)) (OpR.or op_in_seq (op_inDic (by omega)))
theorem or_notIn (hu : X.A.units + 65 < cLine) : OpR X (compareOp .NotIn) (rNotInAll X.K) :=
  OpR.or (OpR.or (fun pins s σ H x y v u Q I rx ry ⟨c, z, e1, e2, q⟩ => op_notIn_sign pins s σ H x y v u Q I rx ry ⟨c, z, e1, e2, q⟩) (op_notInD hu)) (OpR.or op_notIn_seq (op_notInDic (by omega)))
theorem flat_of {K : PySem.W.Frag} {L : Addr → Prop} {H : Hp} {d : D} {v : V} (h : fits 0 d = true) (r : Rep K L H d v) : flatV v = true := by
  cases d <;> simp [fits] at h <;> (simp only [Rep] at r; subst r; rfl)
theorem flats_of {K : PySem.W.Frag} {L : Addr → Prop} {H : Hp} : ∀ {ds : List D} {vs : List V}, fitsAll 0 ds = true → Reps K L H ds vs → vs.all flatV = true
  | [], vs, _, r => by rw [r.invN]; rfl
  | d :: ds, vs, h, r => by
    obtain ⟨v, rs, rfl, h1, h2⟩ := r.inv
    simp only [fitsAll, Bool.and_eq_true] at h
    rw [List.all_cons, flat_of h.1 h1, flats_of h.2 h2]
    rfl
theorem eqV_eqv {K : PySem.W.Frag} {L : Addr → Prop} {H : Hp} {a b : D} {x y : V} (ha : fits 0 a = true) (hb : fits 0 b = true) (ra : Rep K L H a x) (rb : Rep K L H b y) : eqV x y = eqv a b := by
  cases a <;> simp [fits] at ha <;> simp only [Rep] at ra <;> subst ra <;> cases b <;> simp [fits] at hb <;> simp only [Rep] at rb <;> subst rb <;> simp only [eqV, eqv]
  exact str_beq
theorem any_eqv {K : PySem.W.Frag} {L : Addr → Prop} {H : Hp} {a : D} {x : V} (ha : fits 0 a = true) (ra : Rep K L H a x) : ∀ {ds : List D} {vs : List V}, fitsAll 0 ds = true → Reps K L H ds vs → inV x vs = ds.any fun d => eqv d a
  | [], vs, _, r => by rw [r.invN]; rfl
  | d :: ds, vs, h, r => by
    obtain ⟨v, rs, rfl, h1, h2⟩ := r.inv
    simp only [fitsAll, Bool.and_eq_true] at h
    have := any_eqv ha ra h.2 h2
    unfold inV at this ⊢
    rw [List.any_cons, List.any_cons, this, eqV_eqv h.1 ha h1 ra]
theorem any_py {a : D} (ha : fits 64 a = true) : ∀ {ds : List D}, fitsAll 63 ds = true → ((pys ds).any fun z => PyData.eqv z a.py) = ds.any fun d => eqv d a
  | [], _ => rfl
  | d :: ds, h => by
    simp only [fitsAll, Bool.and_eq_true] at h
    simp only [pys, List.any_cons, any_py ha h.2, eqv_py 63 64 d a h.1 ha]
theorem seeR_rep {K : PySem.W.Frag} {L : Addr → Prop} {H : Hp} {d : D} {v : V} (h : fits 0 d = true) (r : SeeR K L H d v) : Rep K L H d v := by
  cases d <;> simp [fits] at h <;> exact r
theorem sgn_ok {x z : Str} {b : Bool} (h : sgnIn x z = some b) : ∃ c, x = ⟨#[c]⟩ ∧ b = decide (c ∈ z.cps.toList) := by
  unfold sgnIn at h
  split at h
  · rename_i c e
    cases h
    refine ⟨c, ?_, ?_⟩
    · cases x; congr 1; exact Array.toList_inj.mp e
    · rw [Bool.eq_iff_iff]; simp
  · cases h
theorem o2_in : Cmp2 X.K opIn (rInAll X.K) := by
  intro Acc ι μ H a b x y e Q S ra rb h q
  cases b <;> simp only [opIn, Option.map_none, reduceCtorEq] at h
  · rename_i z
    cases a <;> simp only [Option.map_none, reduceCtorEq] at h
    rename_i w
    cases hs : sgnIn w z with
    | none => rw [hs] at h; cases h
    | some k =>
      rw [hs] at h; cases h
      obtain ⟨c, rfl, rfl⟩ := sgn_ok hs
      exact .inl (.inl ⟨c, z, seeS ra, seeS rb, fin_dat S q rep_bl⟩)
  · rename_i ds
    split at h
    · rename_i hf
      cases h
      rw [Bool.and_eq_true] at hf
      obtain ⟨p, vs, rfl, tp, rp⟩ := seeT rb
      have ra' := seeR_rep hf.1 ra
      refine .inr (.inl ⟨p, vs, rfl, .inr tp.sq, flat_of hf.1 ra', flats_of hf.2 rp, ?_⟩)
      show Q (.bl (inV x vs)) H
      rw [any_eqv hf.1 ra' hf.2 rp]
      exact fin_dat S q rep_bl
    · cases h
  · rename_i ds
    split at h
    · rename_i hf
      cases h
      rw [Bool.and_eq_true] at hf
      have fl : fits 64 (.lst ds) = true := by simpa [fits] using hf.2
      refine .inl (.inr ⟨a.py, pys ds, ra.dp hf.1, by simpa only [D.py] using rb.dp fl, fits_shaped hf.1, by simpa only [D.py] using fits_shaped fl, ?_⟩)
      rw [any_py hf.1 hf.2]
      exact fin_dat S q rep_bl
    · cases h
  · rename_i ks ds
    cases hk : a.key with
    | none => rw [hk] at h; cases h
    | some k =>
      rw [hk] at h; cases h
      obtain ⟨p, vs, rfl, tp, hl, rp⟩ := rb
      refine .inr (.inr ⟨p, _, rfl, by rw [key_rep hk ra]; exact DGet.k tp, ?_⟩)
      rw [val_has hl rp]
      exact fin_dat S q rep_bl
theorem o2_notin : Cmp2 X.K (fun a b => (opIn a b).map (!·)) (rNotInAll X.K) := by
  intro Acc ι μ H a b x y e Q S ra rb h q
  cases b <;> simp only [opIn, Option.map_none, reduceCtorEq] at h
  · rename_i z
    cases a <;> simp only [Option.map_none, reduceCtorEq] at h
    rename_i w
    cases hs : sgnIn w z with
    | none => rw [hs] at h; cases h
    | some k =>
      rw [hs] at h; cases h
      obtain ⟨c, rfl, rfl⟩ := sgn_ok hs
      exact .inl (.inl ⟨c, z, seeS ra, seeS rb, fin_dat S q rep_bl⟩)
  · rename_i ds
    split at h
    · rename_i hf
      cases h
      rw [Bool.and_eq_true] at hf
      obtain ⟨p, vs, rfl, tp, rp⟩ := seeT rb
      have ra' := seeR_rep hf.1 ra
      refine .inr (.inl ⟨p, vs, rfl, .inr tp.sq, flat_of hf.1 ra', flats_of hf.2 rp, ?_⟩)
      show Q (.bl (!inV x vs)) H
      rw [any_eqv hf.1 ra' hf.2 rp]
      exact fin_dat S q rep_bl
    · cases h
  · rename_i ds
    split at h
    · rename_i hf
      cases h
      rw [Bool.and_eq_true] at hf
      have fl : fits 64 (.lst ds) = true := by simpa [fits] using hf.2
      refine .inl (.inr ⟨a.py, pys ds, ra.dp hf.1, by simpa only [D.py] using rb.dp fl, fits_shaped hf.1, by simpa only [D.py] using fits_shaped fl, ?_⟩)
      rw [any_py hf.1 hf.2]
      exact fin_dat S q rep_bl
    · cases h
  · rename_i ks ds
    cases hk : a.key with
    | none => rw [hk] at h; cases h
    | some k =>
      rw [hk] at h; cases h
      obtain ⟨p, vs, rfl, tp, hl, rp⟩ := rb
      refine .inr (.inr ⟨p, _, rfl, by rw [key_rep hk ra]; exact DGet.k tp, ?_⟩)
      rw [val_has hl rp]
      exact fin_dat S q rep_bl
end
/-- all comparisons -/
def opCmp (op : CmpOp) (a b : D) : Option Bool := match op with
  | .Eq => opEq a b
  | .NotEq => (opEq a b).map (!·)
  | .Lt => opI (fun i j => decide (i < j)) a b
  | .LtE => opI (fun i j => decide (i ≤ j)) a b
  | .Gt => opI (fun i j => decide (j < i)) a b
  | .GtE => opI (fun i j => decide (j ≤ i)) a b
  | .Is => opIs a b
  | .IsNot => (opIs a b).map (!·)
  | .In => opIn a b
  | .NotIn => (opIn a b).map (!·)
theorem cmp_ok (X : Cx) (hu : X.A.units + 65 < cLine) (op : CmpOp) : ∃ r, OpR X (compareOp op) r ∧ Cmp2 X.K (opCmp op) r := by
  cases op with
  | Eq => exact ⟨_, OpR.or op_eq (OpR.or (op_eqD (by omega)) (len_eq (by omega))), o2_eq⟩
  | NotEq => exact ⟨_, OpR.or op_ne (OpR.or (op_neD (by omega)) (len_ne (by omega))), o2_ne⟩
  | Lt => exact ⟨_, op_lt, o2_int⟩
  | LtE => exact ⟨_, op_le, o2_int⟩
  | Gt => exact ⟨_, op_gt, o2_int⟩
  | GtE => exact ⟨_, op_ge, o2_int⟩
  | Is => exact ⟨_, OpR.or op_isN op_is2, o2_is⟩
  | IsNot => exact ⟨_, OpR.or op_notN op_not2, o2_isnot⟩
  | In => exact ⟨_, or_in hu, o2_in⟩
  | NotIn => exact ⟨_, or_notIn hu, o2_notin⟩
end VM
/-! Truth, and/or/not, conditionals, chains; subscripts and slices. -/
namespace VM
open PySem L2 PyProof.Rows

/-! ### 1. truth -/
def tru (d : D) : Option Bool := match d with
  | .non => some false
  | .bl b => some b
  | .int i => some (i != 0)
  | .str x => if x.length ≤ LIM then some ((x.length : Int) != 0) else none
  | .tup ds => some (!ds.isEmpty)
  | .lst ds => some (!ds.isEmpty)
  | .dic ks _ => some (!ks.isEmpty)
  | .scr ns => some (!ns.isEmpty)
theorem tru_ok' {K : PySem.W.Frag} {L : Addr → Prop} {H : Hp} {d : D} {v : V} {k : Bool} (r : SeeR K L H d v) (h : tru d = some k) : TruV K v H k := by
  have emp : ∀ {ds : List D} {vs : List V}, Reps K L H ds vs → (!ds.isEmpty) = !vs.isEmpty := fun {ds vs} r => by
    cases ds with
    | nil => rw [r.invN]; rfl
    | cons d ds => obtain ⟨v, rs, rfl, _⟩ := r.inv; rfl
  cases d with
  | non => cases h; rw [seeN r]; rfl
  | bl b => cases h; rw [seeB r]; rfl
  | int i => cases h; rw [seeI r]; rfl
  | str x =>
    simp only [tru] at h
    split at h
    · rename_i hl
      cases h
      rw [seeS r]
      exact ⟨lim_ok hl, rfl⟩
    · cases h
  | tup ds =>
    cases h
    obtain ⟨a, vs, rfl, t, r⟩ := seeT r
    exact .inr (.inl ⟨vs, t.sq, emp r⟩)
  | lst ds =>
    cases h
    obtain ⟨a, vs, rfl, t, r⟩ := r
    exact .inl ⟨vs, SqL.of t, emp r⟩
  | dic ks ds =>
    cases h
    obtain ⟨a, vs, rfl, t, hl, r⟩ := r
    refine .inr (.inr ⟨_, t, ?_⟩)
    have hv := r.len
    cases ks with
    | nil => rfl
    | cons k ks =>
      cases vs with
      | nil => rw [← hl] at hv; cases hv
      | cons v vs => rfl
  | scr ns =>
    cases h
    obtain ⟨a, rfl, t⟩ := (by simpa only [SeeR, Rep] using r : ∃ a, v = .ref a ∧ LstN K L H a (ns.map V.int))
    refine .inl ⟨_, t.sq, ?_⟩
    cases ns <;> rfl
def truR (a : EV) (μ : Sto) : Res Bool := match a.see μ with
  | some d => match tru d with
    | some k => .ok k μ
    | none => .bad
  | none => .bad
def bTru (f : SE) : SB := fun F ρ μ => (f F ρ μ).bind truR
section
variable {K : PySem.W.Frag} {XC : Nat → Addr} {W : WX} {Acc : Addr → Prop} {ι : List Addr} {μ μ0 : Sto} {H H0 : Hp} {σ : L2.St}
theorem truR_ok {a : EV} {x : V} {Q : Bool → Hp → Prop} (t : Stp K Acc ι μ0 H0 ι μ H) (ra : EvR K (Liv Acc μ ι) ι H0 H a x) (h : wp relB K XC W Acc ι μ0 H0 σ (truR a μ) Q) : ∃ k, TruV K x H k ∧ Q k H := by
  unfold truR at h
  cases ea : a.see μ with
  | none => rw [ea] at h; exact h.elim
  | some d =>
    rw [ea] at h
    simp only at h
    cases et : tru d with
    | none => rw [et] at h; exact h.elim
    | some k =>
      rw [et] at h
      exact ⟨k, tru_ok' (see_ok t.sim ra ea) et, h k H t rfl⟩
end
section
variable {X : Cx} {XC : Nat → Addr} {F : Fns} {W : WX} {a b c : Expr} {rest : List Expr} {fa fb fc : SE} {ga gb gc : SB} {pos : Pos}
theorem ct_tru (ha : PE X a (rdE X.K XC F W fa)) (he : ∀ whole, isTrue a X.env whole = (do let v ← whole; standAt a.pos; holding [v] (truthy v))) : PT X a (rdB X.K XC F W (bTru fa)) :=
  PTimp (pt_truth ha he) fun σ H Q ⟨Acc, ι, ρ, μ, S, E, h⟩ => by
    refine rd.bind (.refl S) E h fun v μ1 x H1 _ t1 r1 h1 => ?_
    exact truR_ok t1 r1.1 h1
def bNot (g : SB) : SB := fun F ρ μ => (g F ρ μ).bind fun k μ1 => .ok (!k) μ1
theorem ct_not (ha : PT X a (rdB X.K XC F W ga)) : PT X (.UnaryOp .Not a pos) (rdB X.K XC F W (bNot ga)) :=
  PTimp (pt_not ha) fun σ H Q ⟨Acc, ι, ρ, μ, S, E, h⟩ => by
    refine rd.bind (.refl S) E h fun v μ1 x H1 _ t1 r1 h1 => ?_
    have e : x = v := r1
    subst e
    exact h1 _ H1 t1 rfl
def bAnd (f g : SB) : SB := fun F ρ μ => (f F ρ μ).bind fun k μ1 => match k with
  | true => g F ρ μ1
  | false => .ok false μ1
def bOr (f g : SB) : SB := fun F ρ μ => (f F ρ μ).bind fun k μ1 => match k with
  | true => .ok true μ1
  | false => g F ρ μ1
theorem cw_and1 (ha : PT X a (rdB X.K XC F W ga)) : PW X (.BoolOp .And [a] pos) (rdB X.K XC F W ga) := pw_and1 ha
theorem cw_or1 (ha : PT X a (rdB X.K XC F W ga)) : PW X (.BoolOp .Or [a] pos) (rdB X.K XC F W ga) := pw_or1 ha
theorem cw_and (ha : PT X a (rdB X.K XC F W ga)) (hb : PW X (.BoolOp .And (b :: rest) pos) (rdB X.K XC F W gb)) : PW X (.BoolOp .And (a :: b :: rest) pos) (rdB X.K XC F W (bAnd ga gb)) :=
  PWimp (pw_and ha hb) fun σ H Q ⟨Acc, ι, ρ, μ, S, E, h⟩ => by
    refine rd.bind (.refl S) E h fun k μ1 x H1 _ t1 r1 h1 => ?_
    have e : x = k := r1
    subst e
    cases x with
    | true => exact rd.last t1 (E.mv t1 S) h1
    | false => exact h1 false H1 t1 rfl
theorem cw_or (ha : PT X a (rdB X.K XC F W ga)) (hb : PW X (.BoolOp .Or (b :: rest) pos) (rdB X.K XC F W gb)) : PW X (.BoolOp .Or (a :: b :: rest) pos) (rdB X.K XC F W (bOr ga gb)) :=
  PWimp (pw_or ha hb) fun σ H Q ⟨Acc, ι, ρ, μ, S, E, h⟩ => by
    refine rd.bind (.refl S) E h fun k μ1 x H1 _ t1 r1 h1 => ?_
    have e : x = k := r1
    subst e
    cases x with
    | true => exact h1 true H1 t1 rfl
    | false => exact rd.last t1 (E.mv t1 S) h1
/-! ### 2. and, or, not as values; a if t else b -/
def eAnd (f g : SE) : SE := fun F ρ μ => (f F ρ μ).bind fun v μ1 => (truR v μ1).bind fun k μ2 => match k with
  | true => g F ρ μ2
  | false => .ok v μ2
def eOr (f g : SE) : SE := fun F ρ μ => (f F ρ μ).bind fun v μ1 => (truR v μ1).bind fun k μ2 => match k with
  | true => .ok v μ2
  | false => g F ρ μ2
theorem truR_bind {γ δ : Type} {K : PySem.W.Frag} {Rel2 : (Addr → Prop) → Sto → List Addr → Hp → Hp → γ → δ → Prop} {Acc : Addr → Prop} {ι : List Addr} {μ μ0 : Sto} {H H0 : Hp} {σ : L2.St} {v : EV} {x : V} {g : Bool → Sto → Res γ} {Q : δ → Hp → Prop} (t : Stp K Acc ι μ0 H0 ι μ H) (ra : EvR K (Liv Acc μ ι) ι H0 H v x)
    (h : wp Rel2 K XC W Acc ι μ0 H0 σ ((truR v μ).bind g) Q) : ∃ k, TruV K x H k ∧ wp Rel2 K XC W Acc ι μ0 H0 σ (g k μ) Q := by
  cases ea : v.see μ with
  | none => simp only [truR, ea, Res.bind] at h; exact h.elim
  | some d =>
    cases et : tru d with
    | none => simp only [truR, ea, et, Res.bind] at h; exact h.elim
    | some k =>
      simp only [truR, ea, et, Res.bind] at h
      exact ⟨k, tru_ok' (see_ok t.sim ra ea) et, h⟩
theorem c_and (ha : PE X a (rdE X.K XC F W fa)) (hb : PE X (.BoolOp .And (b :: rest) pos) (rdE X.K XC F W fb)) : PE X (.BoolOp .And (a :: b :: rest) pos) (rdE X.K XC F W (eAnd fa fb)) :=
  PEimp (pe_andT ha hb) fun σ H Q ⟨Acc, ι, ρ, μ, S, E, h⟩ => by
    refine rd.bind (.refl S) E h fun v μ1 x H1 _ t1 r1 h1 => ?_
    obtain ⟨k, e, h2⟩ := truR_bind t1 r1.1 h1
    refine ⟨k, e, ?_⟩
    cases k with
    | true => exact rd.last t1 (E.mv t1 S) h2
    | false => exact h2 x H1 t1 r1
theorem c_or (ha : PE X a (rdE X.K XC F W fa)) (hb : PE X (.BoolOp .Or (b :: rest) pos) (rdE X.K XC F W fb)) : PE X (.BoolOp .Or (a :: b :: rest) pos) (rdE X.K XC F W (eOr fa fb)) :=
  PEimp (pe_orT ha hb) fun σ H Q ⟨Acc, ι, ρ, μ, S, E, h⟩ => by
    refine rd.bind (.refl S) E h fun v μ1 x H1 _ t1 r1 h1 => ?_
    obtain ⟨k, e, h2⟩ := truR_bind t1 r1.1 h1
    refine ⟨k, e, ?_⟩
    cases k with
    | true => exact h2 x H1 t1 r1
    | false => exact rd.last t1 (E.mv t1 S) h2
def eNot (f : SE) : SE := fun F ρ μ => (f F ρ μ).bind fun v μ1 => (truR v μ1).bind fun k μ2 => .ok (.dat (.bl (!k))) μ2
theorem c_not (ha : PE X a (rdE X.K XC F W fa)) : PE X (.UnaryOp .Not a pos) (rdE X.K XC F W (eNot fa)) :=
  PEimp (pe_notT ha) fun σ H Q ⟨Acc, ι, ρ, μ, S, E, h⟩ => by
    refine rd.bind (.refl S) E h fun v μ1 x H1 _ t1 r1 h1 => ?_
    obtain ⟨k, e, h2⟩ := truR_bind t1 r1.1 h1
    exact ⟨k, e, h2 (.bl (!k)) H1 t1 ⟨rfl, trivial⟩⟩
def eNeg (f : SE) : SE := fun F ρ μ => (f F ρ μ).bind fun v μ1 => match v with
  | .dat (.int i) => .ok (.dat (.int (-i))) μ1
  | _ => .bad
theorem c_neg (ha : PE X a (rdE X.K XC F W fa)) : PE X (.UnaryOp .USub a pos) (rdE X.K XC F W (eNeg fa)) :=
  PEimp (pe_un un_neg ha) fun σ H Q ⟨Acc, ι, ρ, μ, S, E, h⟩ => by
    refine rd.bind (.refl S) E h fun v μ1 x H1 _ t1 r1 h1 => ?_
    split at h1
    · rename_i i _
      have e : x = .int i := r1.1
      subst e
      exact ⟨i, rfl, h1 (.int (-i)) H1 t1 ⟨rfl, trivial⟩⟩
    · exact h1.elim
def eIf (t : SB) (f g : SE) : SE := fun F ρ μ => (t F ρ μ).bind fun k μ1 => match k with
  | true => f F ρ μ1
  | false => g F ρ μ1
theorem c_if (ht : PT X c (rdB X.K XC F W gc)) (ha : PE X a (rdE X.K XC F W fa)) (hb : PE X b (rdE X.K XC F W fb)) : PE X (.IfExp c a b pos) (rdE X.K XC F W (eIf gc fa fb)) :=
  PEimp (pe_ifExp ht ha hb) fun σ H Q ⟨Acc, ι, ρ, μ, S, E, h⟩ => by
    refine rd.bind (.refl S) E h fun k μ1 x H1 _ t1 r1 h1 => ?_
    have e : x = k := r1
    subst e
    cases x with
    | true => exact rd.last t1 (E.mv t1 S) h1
    | false => exact rd.last t1 (E.mv t1 S) h1
def bIf (t f g : SB) : SB := fun F ρ μ => (t F ρ μ).bind fun k μ1 => match k with
  | true => f F ρ μ1
  | false => g F ρ μ1
theorem ct_if (ht : PT X c (rdB X.K XC F W gc)) (ha : PT X a (rdB X.K XC F W ga)) (hb : PT X b (rdB X.K XC F W gb)) : PT X (.IfExp c a b pos) (rdB X.K XC F W (bIf gc ga gb)) := by
  refine ⟨fun pins s σ H Q I ⟨Acc, ι, ρ, μ, S, E, h⟩ => ?_⟩
  have h' : rdB X.K XC F W gc σ H fun k H1 => if k = true then rdB X.K XC F W ga σ H1 Q else rdB X.K XC F W gb σ H1 Q := by
    refine rd.bind (.refl S) E h fun k μ1 x H1 _ t1 r1 h1 => ?_
    have e : x = k := r1
    subst e
    cases x with
    | true => exact rd.last t1 (E.mv t1 S) h1
    | false => exact rd.last t1 (E.mv t1 S) h1
  refine PyProof.Rows.isTrue_IfExp (thn (ht.run pins s σ H _ I h') fun d s1 ⟨H1, I1, q1⟩ => ?_)
  cases d with
  | true => exact ha.run pins s1 σ H1 Q I1 q1
  | false => exact hb.run pins s1 σ H1 Q I1 q1
end

/-! ### 3. a op b op' c -/
def eChain (f g : D → D → Option Bool) (fa fb fc : SE) : SE := fun F ρ μ => (fa F ρ μ).bind fun a μ1 => (fb F ρ μ1).bind fun b μ2 => (lift2B f a b μ2).bind fun k μ3 => match k with
  | true => (fc F ρ μ3).bind fun c μ4 => lift2 (fun x y => (g x y).map fun k => .dat (.bl k)) b c μ4
  | false => .ok (.dat (.bl false)) μ3
def bChain (f g : D → D → Option Bool) (fa fb fc : SE) : SB := fun F ρ μ => (fa F ρ μ).bind fun a μ1 => (fb F ρ μ1).bind fun b μ2 => (lift2B f a b μ2).bind fun k μ3 => match k with
  | true => (fc F ρ μ3).bind fun c μ4 => lift2B g b c μ4
  | false => .ok false μ3
section
variable {K : PySem.W.Frag} {XC : Nat → Addr} {W : WX} {Acc : Addr → Prop} {ι : List Addr} {μ μ0 : Sto} {H H0 : Hp} {σ : L2.St}
theorem lift2B_bind {γ δ : Type} {Rel2 : (Addr → Prop) → Sto → List Addr → Hp → Hp → γ → δ → Prop} {f : D → D → Option Bool} {r : R2} {a b : EV} {x y : V} {g : Bool → Sto → Res γ} {Q : δ → Hp → Prop} {P : V → Hp → Prop} (ho : Cmp2 K f r) (t : Stp K Acc ι μ0 H0 ι μ H)
    (ra : EvR K (Liv Acc μ ι) ι H0 H a x) (rb : EvR K (Liv Acc μ ι) ι H0 H b y) (h : wp Rel2 K XC W Acc ι μ0 H0 σ ((lift2B f a b μ).bind g) Q)
    (k : ∀ c H', Stp K Acc ι μ H ι μ H' → wp Rel2 K XC W Acc ι μ0 H0 σ (g c μ) Q → P (.bl c) H') : r x y H P := by
  cases ea : a.see μ with
  | none => simp only [lift2B, ea, Res.bind] at h; exact h.elim
  | some da =>
    cases eb : b.see μ with
    | none => simp only [lift2B, ea, eb, Res.bind] at h; exact h.elim
    | some db =>
      cases ef : f da db with
      | none => simp only [lift2B, ea, eb, ef, Res.bind] at h; exact h.elim
      | some e =>
        simp only [lift2B, ea, eb, ef, Res.bind] at h
        exact ho Acc ι μ H da db x y (.dat (.bl e)) _ t.sim (see_ok t.sim ra ea) (see_ok t.sim rb eb) (by show Option.map _ (f da db) = _; rw [ef]; rfl) fun v H' t' rv => by
          have e' : v = .bl e := rv.1
          subst e'
          exact k e H' t' h
end
section
variable {X : Cx} {XC : Nat → Addr} {F : Fns} {W : WX} {a b c : Expr} {fa fb fc : SE} {pos : Pos} {op op' : CmpOp} {f g : D → D → Option Bool} {r r' : R2}
theorem c_chain (hr : OpR X (compareOp op) r) (ho : Cmp2 X.K f r) (hr' : OpR X (compareOp op') r') (ho' : Cmp2 X.K g r') (ha : PE X a (rdE X.K XC F W fa)) (hb : PE X b (rdE X.K XC F W fb)) (hc : PE X c (rdE X.K XC F W fc)) (hm : lastMarks [op, op'] [b, c] = false) :
    PE X (.Compare a [op, op'] [b, c] pos) (rdE X.K XC F W (eChain f g fa fb fc)) :=
  PEimp (pe_chain hr hr' ha hb hc hm) fun σ H Q ⟨Acc, ι, ρ, μ, S, E, h⟩ => by
    refine rd.bind (.refl S) E h fun va μ1 x H1 _ t1 r1 h1 => ?_
    refine rd.bind t1 (E.mv t1 S) h1 fun vb μ2 y H2 _ t2 r2 h2 => ?_
    refine lift2B_bind ho (t1.trans t2) (EvR.mv t1 S t2 r1.1 rfl) (EvR.back t1 r2.1) h2 fun k H3 t3 h3 => ⟨k, rfl, ?_⟩
    have t03 := (t1.trans t2).trans t3
    cases k with
    | false => exact h3 (.bl false) H3 t03 ⟨rfl, trivial⟩
    | true =>
      refine rd.bind t03 (E.mv t03 S) h3 fun vc μ4 z H4 _ t4 r4 h4 => ?_
      exact lift2_ok ho' S (t03.trans t4) (EvR.back t1 (EvR.mv t2 t1.sim (t3.trans t4) r2.1 rfl)) (EvR.back t03 r4.1) h4
theorem ct_chain (hr : OpR X (compareOp op) r) (ho : Cmp2 X.K f r) (hr' : OpR X (compareOp op') r') (ho' : Cmp2 X.K g r') (ha : PE X a (rdE X.K XC F W fa)) (hb : PE X b (rdE X.K XC F W fb)) (hc : PE X c (rdE X.K XC F W fc)) (hm : lastMarks [op, op'] [b, c] = false) :
    PT X (.Compare a [op, op'] [b, c] pos) (rdB X.K XC F W (bChain f g fa fb fc)) :=
  PTimp (pt_chain hr hr' ha hb hc hm) fun σ H Q ⟨Acc, ι, ρ, μ, S, E, h⟩ => by
    refine rd.bind (.refl S) E h fun va μ1 x H1 _ t1 r1 h1 => ?_
    refine rd.bind t1 (E.mv t1 S) h1 fun vb μ2 y H2 _ t2 r2 h2 => ?_
    refine lift2B_bind ho (t1.trans t2) (EvR.mv t1 S t2 r1.1 rfl) (EvR.back t1 r2.1) h2 fun k H3 t3 h3 => ⟨k, rfl, ?_⟩
    have t03 := (t1.trans t2).trans t3
    cases k with
    | false => exact ⟨false, rfl, h3 false H3 t03 rfl⟩
    | true =>
      refine rd.bind t03 (E.mv t03 S) h3 fun vc μ4 z H4 _ t4 r4 h4 => ?_
      exact lift2B_ok ho' S (t03.trans t4) (EvR.back t1 (EvR.mv t2 t1.sim (t3.trans t4) r2.1 rfl)) (EvR.back t03 r4.1) h4
end

/-! ### 4. subscripts -/
def opIx (a b : D) : Option EV := match a, b with
  | .lst ds, .int i => (atI ds i).map .dat
  | .tup ds, .int i => (atI ds i).map .dat
  | .str x, .int i => if x.length ≤ LIM then (atI x.cps.toList i).map fun c => .dat (.str ⟨#[c]⟩) else none
  | .scr ns, .int i => (atI ns i).map fun n => .dat (.int n)
  | .dic ks ds, b => match b.key with
    | some k => (dget ks ds k).map .dat
    | none => none
  | _, _ => none
section
variable {K : PySem.W.Frag} {L : Addr → Prop} {H : Hp}
theorem Reps.atI {ds : List D} {vs : List V} {i : Int} {d : D} (r : Reps K L H ds vs) (h : L2.atI ds i = some d) : ∃ v, L2.atI vs i = some v ∧ Rep K L H d v := by
  unfold L2.atI at h ⊢
  rw [r.len]
  cases e : ixN ds.length i with
  | none => rw [e] at h; cases h
  | some j =>
    rw [e] at h
    exact r.get h
theorem atI_map {α β : Type} {f : α → β} {xs : List α} {i : Int} {a : α} (h : L2.atI xs i = some a) : L2.atI (xs.map f) i = some (f a) := by
  unfold L2.atI at h ⊢
  rw [List.length_map]
  cases e : ixN xs.length i with
  | none => rw [e] at h; cases h
  | some j =>
    rw [e] at h
    show (xs.map f)[j]? = _
    rw [List.getElem?_map, (show xs[j]? = some a from h)] <;> rfl
end
def rIxD : R2 := fun x y H Q => ∃ a v, x = .ref a ∧ DGet H a y (some v) ∧ Q v H
section
variable {X : Cx}
theorem ix_dic (hu : X.A.units + 1 < cLine) : IxR X rIxD := by
  intro value slice pins s σ H x y v u Q I rx ry h hs
  obtain ⟨a, w', rfl, g, q⟩ := h
  cases (show v = Value.ref a from rx)
  exact tail_any (dict_typeIs I g) PySem.F.slot_dict_getitem.lookup (d_getItem hu I g ry fun w2 s' I' rw' => ⟨w', H, I', rw', q⟩) hs
theorem or_ix (hu : X.A.units + 1 < cLine) : IxR X (fun x y H Q => rIx X.K x y H Q ∨ rIxD x y H Q) := IxR.or ix_seq (ix_dic hu)
theorem o2_ix : Op2 X.K opIx (fun x y H Q => rIx X.K x y H Q ∨ rIxD x y H Q) := by
  intro Acc ι μ H a b x y e Q S ra rb h q
  cases a <;> simp only [opIx, reduceCtorEq] at h
  · rename_i z
    cases b <;> simp only [reduceCtorEq] at h
    rename_i i
    split at h
    · rename_i hl
      cases hc : atI z.cps.toList i with
      | none => rw [hc] at h; cases h
      | some c =>
        rw [hc] at h; cases h
        exact .inl (.inr (.inr ⟨z, i, c, seeS ra, seeI rb, lim_ok hl, hc, fin_dat S q rep_str⟩))
    · cases h
  · rename_i ds
    cases b <;> simp only [reduceCtorEq] at h
    rename_i i
    obtain ⟨p, vs, rfl, tp, rp⟩ := seeT ra
    cases hc : atI ds i with
    | none => rw [hc] at h; cases h
    | some c =>
      rw [hc] at h; cases h
      obtain ⟨v, e1, rv⟩ := rp.atI hc
      exact .inl (.inr (.inl ⟨p, vs, i, v, rfl, seeI rb, tp.sq, e1, fin_dat S q rv⟩))
  · rename_i ds
    cases b <;> simp only [reduceCtorEq] at h
    rename_i i
    obtain ⟨p, vs, rfl, tp, rp⟩ := seeL ra
    cases hc : atI ds i with
    | none => rw [hc] at h; cases h
    | some c =>
      rw [hc] at h; cases h
      obtain ⟨v, e1, rv⟩ := rp.atI hc
      exact .inl (.inl ⟨p, vs, i, v, rfl, seeI rb, SqL.of tp, e1, fin_dat S q rv⟩)
  · rename_i ks ds
    cases hk : b.key with
    | none => rw [hk] at h; cases h
    | some k =>
      rw [hk] at h
      simp only at h
      obtain ⟨p, vs, rfl, tp, hl, rp⟩ := ra
      have hg := val_get (k := k) hl rp
      cases hd : dget ks ds k with
      | none => rw [hd] at h; cases h
      | some d =>
        rw [hd] at h hg; cases h
        obtain ⟨v, e1, rv⟩ := hg
        exact .inr ⟨p, v, rfl, by rw [key_rep hk rb, ← e1]; exact DGet.k tp, fin_dat S q rv⟩
  · rename_i ns
    cases b <;> simp only [reduceCtorEq] at h
    rename_i i
    obtain ⟨p, rfl, tp⟩ := (by simpa only [SeeR, Rep] using ra : ∃ a, x = .ref a ∧ LstN X.K (Liv Acc μ ι) H a (ns.map V.int))
    cases hc : atI ns i with
    | none => rw [hc] at h; cases h
    | some c =>
      rw [hc] at h; cases h
      exact .inl (.inl ⟨p, _, i, .int c, rfl, seeI rb, tp.sq, atI_map hc, fin_dat S q rep_int⟩)
end
def eIx (f g : SE) : SE := fun F ρ μ => (f F ρ μ).bind fun a μ1 => (g F ρ μ1).bind fun b μ2 => lift2 opIx a b μ2
section
variable {X : Cx} {XC : Nat → Addr} {F : Fns} {W : WX} {a b : Expr} {fa fb : SE} {pos : Pos}
theorem c_ix (hu : X.A.units + 1 < cLine) (ha : PE X a (rdE X.K XC F W fa)) (hb : PE X b (rdE X.K XC F W fb)) (hs : PlainIx b) : PE X (.Subscript a b pos) (rdE X.K XC F W (eIx fa fb)) :=
  PEimp (pe_ix (or_ix hu) ha hb hs) fun _ _ _ h => two_ok o2_ix h
end

/-! ### 5. slices -/
def cutD (ds : List D) (lo hi : Option Int) : List D := (ds.drop (HT.sIx ds.length 0 lo)).take (HT.sIx ds.length ds.length hi - HT.sIx ds.length 0 lo)
def opSl (a : D) (lo hi : Option Int) : Option EV := match a with
  | .lst ds => some (.new (.lst (cutD ds lo hi)))
  | .tup ds => some (.dat (.tup (cutD ds lo hi)))
  | .str z => if z.length ≤ LIM then some (.dat (.str (cutS z lo hi))) else none
  | _ => none
theorem Reps.cut {K : PySem.W.Frag} {L : Addr → Prop} {H : Hp} {ds : List D} {vs : List V} (r : Reps K L H ds vs) (lo hi : Option Int) : Reps K L H (cutD ds lo hi) (cutV vs lo hi) := by
  unfold cutD cutV
  rw [r.len]
  exact (r.drop _).take _
def oNone : SOp := fun _ _ μ => .ok none μ
def oSome (f : SE) : SOp := fun F ρ μ => (f F ρ μ).bind fun v μ1 => match v with
  | .dat (.int i) => .ok (some i) μ1
  | _ => .bad
def slR (lo hi : Option Int) (a : EV) (μ : Sto) : Res EV := match a.see μ with
  | some d => match opSl d lo hi with
    | some e => .ok e μ
    | none => .bad
  | none => .bad
def eSl (f : SE) (l h : SOp) : SE := fun F ρ μ => (f F ρ μ).bind fun a μ1 => (l F ρ μ1).bind fun lo μ2 => (h F ρ μ2).bind fun hi μ3 => slR lo hi a μ3
section
variable {X : Cx} {XC : Nat → Addr} {F : Fns} {W : WX} {a e : Expr} {lo hi : Option Expr} {fa : SE} {fl fh : SOp} {pos p2 : Pos}
theorem POimp {e : Option Expr} {t t' : TO} (h : PO X e t) (i : ∀ σ H Q, t' σ H Q → t σ H Q) : PO X e t' := ⟨fun pins s σ H Q I q => h.run pins s σ H Q I (i σ H Q q)⟩
theorem co_none : PO X none (rdO X.K XC F W oNone) := POimp po_none fun σ H Q ⟨Acc, ι, ρ, μ, S, E, h⟩ => h none H (.refl S) rfl
theorem co_some (he : PE X e (rdE X.K XC F W fa)) : PO X (some e) (rdO X.K XC F W (oSome fa)) := POimp (po_some he) fun σ H Q ⟨Acc, ι, ρ, μ, S, E, h⟩ => by
  refine rd.bind (.refl S) E h fun v μ1 x H1 _ t1 r1 h1 => ?_
  split at h1
  · rename_i i _
    exact ⟨i, r1.1, h1 (some i) H1 t1 rfl⟩
  · exact h1.elim
def rSlAll (K : PySem.W.Frag) : V → Option Int → Option Int → Hp → VK → Prop := fun x lo hi H Q => (rSlL K x lo hi H Q ∨ rSlA K x lo hi H Q) ∨ rSlS x lo hi H Q
theorem or_sl : SlR X (rSlAll X.K) := SlR.or (SlR.or sl_list sl_tupA) sl_str
theorem slR_ok {K : PySem.W.Frag} {Acc : Addr → Prop} {ι : List Addr} {μ μ0 : Sto} {H H0 : Hp} {σ : L2.St} {v : EV} {x : V} {lo hi : Option Int} {Q : VK} (t : Stp K Acc ι μ0 H0 ι μ H) (ra : EvR K (Liv Acc μ ι) ι H0 H v x)
    (h : wp (relE K) K XC W Acc ι μ0 H0 σ (slR lo hi v μ) Q) : rSlAll K x lo hi H Q := by
  unfold slR at h
  cases ea : v.see μ with
  | none => rw [ea] at h; exact h.elim
  | some d =>
    rw [ea] at h
    simp only at h
    have r := see_ok t.sim ra ea
    cases d <;> simp only [opSl] at h
    · exact h.elim
    · exact h.elim
    · exact h.elim
    · rename_i z
      by_cases hl : z.length ≤ LIM
      · rw [if_pos hl] at h
        exact .inr ⟨z, seeS r, lim_ok hl, h (.str (cutS z lo hi)) H t ⟨rfl, trivial⟩⟩
      · rw [if_neg hl] at h; exact h.elim
    · rename_i ds
      obtain ⟨p, vs, rfl, tp, rp⟩ := seeT r
      refine .inl (.inr ⟨p, vs, rfl, tp.sq, fun e => ?_, fun _ p2 n => h (.ref p2) _ (t.trans (t.sim.up n _)) ⟨t.sim.newT n (rp.cut lo hi), trivial⟩⟩)
      refine h (.ref p) H t ⟨?_, trivial⟩
      have ec : cutD ds lo hi = ds := by
        unfold cutD
        rw [← rp.len, e.1, e.2, List.drop_zero, Nat.sub_zero, rp.len, List.take_length]
      show Rep K _ H (.tup (cutD ds lo hi)) (.ref p)
      rw [ec]
      simp only [Rep]
      exact ⟨p, vs, rfl, tp, rp⟩
    · rename_i ds
      obtain ⟨p, vs, rfl, tp, rp⟩ := r
      exact .inl (.inl ⟨p, vs, rfl, SqL.of tp, fun p2 n => h (.ref p2) _ (t.trans (t.sim.up n _)) ⟨⟨p2, rfl, t.back n, t.sim.newL n (rp.cut lo hi)⟩, t.sim.ownN n (rp.cut lo hi)⟩⟩)
    · exact h.elim
    · exact h.elim
theorem c_sl (ha : PE X a (rdE X.K XC F W fa)) (hl : PO X lo (rdO X.K XC F W fl)) (hh : PO X hi (rdO X.K XC F W fh)) : PE X (.Subscript a (.Slice lo hi none p2) pos) (rdE X.K XC F W (eSl fa fl fh)) :=
  PEimp (pe_slice or_sl ha hl hh) fun σ H Q ⟨Acc, ι, ρ, μ, S, E, h⟩ => by
    refine rd.bind (.refl S) E h fun v μ1 x H1 _ t1 r1 h1 => ?_
    refine rd.bind t1 (E.mv t1 S) h1 fun l μ2 y H2 _ t2 r2 h2 => ?_
    have t02 := t1.trans t2
    refine rd.bind t02 (E.mv t02 S) h2 fun u μ3 z H3 _ t3 r3 h3 => ?_
    have e1 : y = l := r2
    have e2 : z = u := r3
    subst e1 e2
    exact slR_ok (t02.trans t3) (EvR.mv t1 S (t2.trans t3) r1.1 rfl) h3
end
end VM
/-! Calls of built-ins. -/
namespace VM
open PySem L2 PyProof.Rows

/-! ### 1. the general form -/
def sees : List EV → Sto → Option (List D)
  | [], _ => some []
  | v :: vs, μ => match v.see μ, sees vs μ with
    | some d, some ds => some (d :: ds)
    | _, _ => none
def SeesR (K : PySem.W.Frag) (L : Addr → Prop) (H : Hp) : List D → List V → Prop
  | [], vs => vs = []
  | d :: ds, vs => ∃ v r, vs = v :: r ∧ SeeR K L H d v ∧ SeesR K L H ds r
theorem sees_ok {K : PySem.W.Frag} {Acc : Addr → Prop} {ι : List Addr} {μ : Sto} {H H0 : Hp} (S : Sim K Acc μ ι H) : ∀ {es : List EV} {ds : List D} {vs : List V}, EvsR K (Liv Acc μ ι) ι H0 H es vs → sees es μ = some ds → SeesR K (Liv Acc μ ι) H ds vs
  | [], ds, vs, r, h => by cases h; exact r
  | e :: es, ds, vs, r, h => by
    obtain ⟨v, rs, rfl, h1, h2⟩ := r
    simp only [sees] at h
    cases ea : e.see μ with
    | none => rw [ea] at h; simp at h
    | some d =>
      cases eb : sees es μ with
      | none => rw [ea, eb] at h; simp at h
      | some ds' =>
        rw [ea, eb] at h
        simp only at h
        cases h
        exact ⟨v, rs, rfl, see_ok S h1 ea, sees_ok S h2 eb⟩
def liftN (f : List D → Option EV) (vs : List EV) (μ : Sto) : Res EV := match sees vs μ with
  | some ds => match f ds with
    | some e => .ok e μ
    | none => .bad
  | none => .bad
def eCb (f : List D → Option EV) (fa : SA) : SE := fun F ρ μ => (fa F ρ μ).bind fun vs μ1 => liftN f vs μ1
/-- what a call on values must give -/
def OpN (K : PySem.W.Frag) (f : List D → Option EV) (r : List V → Hp → VK → Prop) : Prop :=
  ∀ (Acc : Addr → Prop) (ι : List Addr) (μ : Sto) (H : Hp) (ds : List D) (xs : List V) (e : EV) (Q : VK), Sim K Acc μ ι H → SeesR K (Liv Acc μ ι) H ds xs → f ds = some e →
    (∀ v H', Stp K Acc ι μ H ι μ H' → relE K Acc μ ι H H' e v → Q v H') → r xs H Q
section
variable {X : Cx} {XC : Nat → Addr} {F : Fns} {W : WX} {x : Str} {p pos : Pos} {e : Expr} {es : List Expr} {fa : SA} {id T : String} {f : List D → Option EV} {r : List V → Hp → VK → Prop}
theorem liftN_ok {K : PySem.W.Frag} {Acc : Addr → Prop} {ι : List Addr} {μ μ0 : Sto} {H H0 : Hp} {σ : L2.St} {vs : List EV} {xs : List V} {Q : VK} (ho : OpN K f r) (t : Stp K Acc ι μ0 H0 ι μ H) (ra : EvsR K (Liv Acc μ ι) ι H0 H vs xs)
    (h : wp (relE K) K XC W Acc ι μ0 H0 σ (liftN f vs μ) Q) : r xs H Q := by
  unfold liftN at h
  cases ea : sees vs μ with
  | none => rw [ea] at h; exact h.elim
  | some ds =>
    rw [ea] at h
    simp only at h
    cases ef : f ds with
    | none => rw [ef] at h; exact h.elim
    | some e =>
      rw [ef] at h
      exact ho Acc ι μ H ds xs e Q t.sim (sees_ok t.sim ra ea) ef fun v H' t' rv => h v H' (t.trans t') ⟨EvR.back t rv.1, rv.2⟩
theorem callN_ok {K : PySem.W.Frag} {σ : L2.St} {H : Hp} {Q : VK} (ho : OpN K f r) (h : rdE K XC F W (eCb f fa) σ H Q) : tCB r (rdA K XC F W fa) σ H Q := by
  obtain ⟨Acc, ι, ρ, μ, S, E, h⟩ := h
  refine rd.bind (.refl S) E h fun vs μ1 xs H1 _ t1 r1 h1 => ?_
  exact liftN_ok ho t1 r1 h1
theorem c_callB (hc : CallR X (.builtin id) r) (ho : OpN X.K f r) (hg : Gl X x) (hm : X.mg x = none) (hv : bootBuiltins x = some (.builtin id)) (ha : PA X (e :: es) (rdA X.K XC F W fa)) (hn : x ≠ "__name__") (hdb : (x == ("__debug__" : Str)) = false)
    (he : starEach (e :: es) X.env = (false, eval e X.env) :: starEach es X.env) (hpl : (backTo pos (starEach es X.env)).any (·.1) = false) : PE X (.Call (.Name x p) (e :: es) [] pos) (rdE X.K XC F W (eCb f fa)) :=
  PEimp (pe_callB hc hg hm hv ha hn hdb he hpl) fun _ _ _ h => callN_ok ho h
theorem c_callTy (hc : CallR X (.type T) r) (ho : OpN X.K f r) (hg : Gl X x) (hm : X.mg x = none) (hv : bootBuiltins x = some (.type T)) (ha : PA X (e :: es) (rdA X.K XC F W fa)) (hn : x ≠ "__name__") (hdb : (x == ("__debug__" : Str)) = false)
    (he : starEach (e :: es) X.env = (false, eval e X.env) :: starEach es X.env) (hpl : (backTo pos (starEach es X.env)).any (·.1) = false) : PE X (.Call (.Name x p) (e :: es) [] pos) (rdE X.K XC F W (eCb f fa)) :=
  PEimp (pe_callTy hc hg hm hv ha hn hdb he hpl) fun _ _ _ h => callN_ok ho h
end

/-! ### 2. isinstance of a built-in type -/
inductive Ty where
  | int | bool | str | tuple | list | dict
def Ty.name : Ty → String
  | .int => "int" | .bool => "bool" | .str => "str" | .tuple => "tuple" | .list => "list" | .dict => "dict"
def isi (T : Ty) (d : D) : Bool := match T, d with
  | .int, .int _ => true
  | .int, .bl _ => true
  | .bool, .bl _ => true
  | .str, .str _ => true
  | .tuple, .tup _ => true
  | .list, .lst _ => true
  | .list, .scr _ => true
  | .dict, .dic _ _ => true
  | _, _ => false
def tyD : D → String
  | .non => "NoneType" | .bl _ => "bool" | .int _ => "int" | .str _ => "str" | .tup _ => "tuple" | .lst _ => "list" | .dic _ _ => "dict" | .scr _ => "list"
theorem isi_kit (K : PySem.W.Frag) (T : Ty) (d : D) : PySem.W.kitOne K (.type (tyD d)) (.type T.name) = some (isi T d) := by
  have t : ∀ T : Ty, kitB "NoneType" T.name = some (isi T .non) ∧ kitB "bool" T.name = some (isi T (.bl true)) ∧ kitB "int" T.name = some (isi T (.int 0)) ∧ kitB "str" T.name = some (isi T (.str ⟨#[]⟩)) ∧
      kitB "tuple" T.name = some (isi T (.tup [])) ∧ kitB "list" T.name = some (isi T (.lst [])) ∧ kitB "dict" T.name = some (isi T (.dic [] [])) ∧ kitB "list" T.name = some (isi T (.scr [])) := by
    intro T
    cases T <;> decide +kernel
  obtain ⟨h1, h2, h3, h4, h5, h6, h7, h8⟩ := t T
  cases d with
  | non => exact kit_ty h1
  | bl _ => cases T <;> exact kit_ty h2
  | int _ => cases T <;> exact kit_ty h3
  | str _ => cases T <;> exact kit_ty h4
  | tup _ => cases T <;> exact kit_ty h5
  | lst _ => cases T <;> exact kit_ty h6
  | dic _ _ => cases T <;> exact kit_ty h7
  | scr _ => cases T <;> exact kit_ty h8
section
variable {K : PySem.W.Frag} {L : Addr → Prop} {H : Hp}
theorem tyx_rd {a : Addr} {u : HO} {vs : List V} (h : TupN K L H a vs) : TyX K H (.ref a) (.type "tuple") := by
  rcases h with ⟨h, _⟩ | ⟨o, its, n, h, c, _⟩
  · rcases h with h | ⟨o, h⟩
    · exact .base (.tup h)
    · exact .fTuple h
  · exact .kTuple h c
theorem tyx_of {d : D} {v : V} (r : SeeR K L H d v) : TyX K H v (.type (tyD d)) := by
  cases d with
  | non => rw [seeN r]; exact .base .non
  | bl b => rw [seeB r]; exact .base (.bl b)
  | int b => rw [seeI r]; exact .base (.int b)
  | str b => rw [seeS r]; exact .base (.str b)
  | tup ds => obtain ⟨a, vs, rfl, t, _⟩ := seeT r; exact tyx_rd (u := .tup vs) t
  | lst ds => obtain ⟨a, vs, rfl, t, _⟩ := r; exact .base (.lst t)
  | dic ks ds => obtain ⟨a, vs, rfl, t, _⟩ := r; exact .base (.dK t)
  | scr ns =>
    obtain ⟨a, rfl, t⟩ := (by simpa only [SeeR, Rep] using r : ∃ a, v = .ref a ∧ LstN K L H a (ns.map V.int))
    rcases t with ⟨h, _⟩ | ⟨o, its, n, h, c, _⟩
    · rcases h with h | ⟨o, h⟩
      · exact .base (.lst h)
      · exact .base (.frz h)
    · exact .kList h c
end
def eIsi (T : Ty) (fa : SE) : SE := fun F ρ μ => (fa F ρ μ).bind fun v μ1 => match v.see μ1 with
  | some d => .ok (.dat (.bl (isi T d))) μ1
  | none => .bad
/-- isinstance(a, (T1, T2, ..)) -/
def eIsiT (Ts : List Ty) (fa : SE) : SE := fun F ρ μ => (fa F ρ μ).bind fun v μ1 => match v.see μ1 with
  | some d => .ok (.dat (.bl (Ts.any fun T => isi T d))) μ1
  | none => .bad
section
variable {X : Cx} {XC : Nat → Addr} {F : Fns} {W : WX} {x t : Str} {p p1 p2 pos : Pos} {e : Expr} {fa : SE} {T : Ty}
theorem ty_bltn (hg : Gl X t) (hm : X.mg t = none) (hv : bootBuiltins t = some (.type T.name)) (hn : t ≠ "__name__") (hdb : (t == ("__debug__" : Str)) = false) : PE X (.Name t p) (tC (.ty T.name)) := pe_bltn hg hm hv rfl hn hdb
theorem c_isi (hg : Gl X "isinstance") (hm : X.mg "isinstance" = none) (ht : PE X (.Name t p1) (tC (.ty T.name))) (ha : PE X e (rdE X.K XC F W fa)) (he : starEach [e, .Name t p1] X.env = (false, eval e X.env) :: starEach [.Name t p1] X.env)
    : PE X (.Call (.Name "isinstance" p) [e, .Name t p1] [] pos) (rdE X.K XC F W (eIsi T fa)) :=
  PEimp (pe_callB call_isi hg hm (by decide +kernel) (pa_cons ha (pa_cons ht pa_nil) he) (by decide) (by decide) he (by rfl)) fun σ H Q ⟨Acc, ι, ρ, μ, S, E, h⟩ => by
    refine rd.bind (.refl S) E h fun v μ1 x H1 _ t1 r1 h1 => ?_
    cases ea : v.see μ1 with
    | none => rw [ea] at h1; exact h1.elim
    | some d =>
      rw [ea] at h1
      exact ⟨x, .ty T.name, .type (tyD d), .type T.name, isi T d, rfl, .ty _, tyx_of (see_ok t1.sim r1.1 ea), isi_kit X.K T d, h1 (.bl (isi T d)) H1 t1 ⟨rfl, trivial⟩⟩
/-- the tuple of types -/
def tyVs (Ts : List Ty) : List V := Ts.map fun T => .ty T.name
def tyUs (Ts : List Ty) : List Value := Ts.map fun T => .type T.name
theorem cls_ts : ∀ Ts : List Ty, Paired ClsV (tyVs Ts) (tyUs Ts)
  | [] => .nil
  | T :: Ts => .cons (.ty _) (cls_ts Ts)
theorem kit_ts (K : PySem.W.Frag) (d : D) : ∀ Ts : List Ty, PySem.W.kitAny K (.type (tyD d)) (tyUs Ts) = some (Ts.any fun T => isi T d)
  | [] => kitAny_nil
  | T :: Ts => by
    refine kitAny_cons (b := isi T d) (isi_kit K T d) (fun h => ?_) (fun h => ?_)
    · rw [List.any_cons, h, Bool.false_or]; exact kit_ts K d Ts
    · rw [List.any_cons, h, Bool.true_or]
def tTys (Ts : List Ty) : TA := fun _ H Q => Q (tyVs Ts) H
theorem c_isiT {elts : List Expr} {k : Nat} {Ts : List Ty} (hg : Gl X "isinstance") (hm : X.mg "isinstance" = none) (ht : PA X elts (tTys Ts)) (hl : Ts.length ≤ 20) (ha : PE X e (rdE X.K XC F W fa)) (he : starEach [e, .Tuple elts k p1] X.env = (false, eval e X.env) :: starEach [.Tuple elts k p1] X.env)
    : PE X (.Call (.Name "isinstance" p) [e, .Tuple elts k p1] [] pos) (rdE X.K XC F W (eIsiT Ts fa)) :=
  PEimp (pe_callB call_isiT hg hm (by decide +kernel) (pa_cons ha (pa_cons (pe_tup ht) pa_nil) he) (by decide) (by decide) he (by rfl)) fun σ H Q ⟨Acc, ι, ρ, μ, S, E, h⟩ => by
    refine rd.bind (.refl S) E h fun v μ1 x H1 _ t1 r1 h1 => ?_
    cases ea : v.see μ1 with
    | none => rw [ea] at h1; exact h1.elim
    | some d =>
      rw [ea] at h1
      refine ⟨by show (tyVs Ts).length ≤ sizeLine; unfold tyVs; rw [List.length_map]; exact Nat.le_trans hl (by decide), fun p2 n => ?_⟩
      have tu := t1.sim.up n (.tup (tyVs Ts))
      have r2 : SeeR X.K (Liv Acc μ1 ι) (upd H1 p2 (.tup (tyVs Ts))) d x := see_ok tu.sim (EvR.mv t1 S tu r1.1 rfl) ea
      exact ⟨x, p2, tyVs Ts, .type (tyD d), tyUs Ts, _, rfl, upd_same, cls_ts Ts, tyx_of r2, kit_ts X.K d Ts, h1 (.bl _) _ (t1.trans tu) ⟨rfl, trivial⟩⟩
end

/-! ### 3. len, all, any, max, min, sum, abs, int, str, list, tuple, divmod -/
def bLen : List D → Option EV
  | [.str x] => if x.length ≤ LIM then some (.dat (.int x.length)) else none
  | [.tup ds] => some (.dat (.int ds.length))
  | [.lst ds] => some (.dat (.int ds.length))
  | [.dic ks _] => some (.dat (.int ks.length))
  | [.scr ns] => some (.dat (.int ns.length))
  | _ => none
def bls : List D → Option (List Bool)
  | [] => some []
  | .bl b :: ds => (bls ds).map (b :: ·)
  | _ => none
def toInts : List D → Option (List Int)
  | [] => some []
  | .int b :: ds => (toInts ds).map (b :: ·)
  | _ => none
def bAll : List D → Option EV
  | [.lst ds] => (bls ds).map fun bs => .dat (.bl (bs.all id))
  | _ => none
def bAny : List D → Option EV
  | [.lst ds] => (bls ds).map fun bs => .dat (.bl (bs.any id))
  | _ => none
def maxI : Int → List Int → Int
  | m, [] => m
  | m, n :: ns => maxI (if m < n then n else m) ns
def minI : Int → List Int → Int
  | m, [] => m
  | m, n :: ns => minI (if n < m then n else m) ns
def bMax : List D → Option EV
  | [.int i, .int j] => some (.dat (.int (if j > i then j else i)))
  | [.lst ds] => match toInts ds with
    | some (n :: ns) => some (.dat (.int (maxI n ns)))
    | _ => none
  | _ => none
def bMin : List D → Option EV
  | [.int i, .int j] => some (.dat (.int (if j < i then j else i)))
  | [.lst ds] => match toInts ds with
    | some (n :: ns) => some (.dat (.int (minI n ns)))
    | _ => none
  | _ => none
def bSum : List D → Option EV
  | [.lst ds] => (toInts ds).map fun ns => .dat (.int ns.sum)
  | [.scr ns] => some (.dat (.int ns.sum))
  | _ => none
def bAbs : List D → Option EV
  | [.int i] => some (.dat (.int (if i < 0 then -i else i)))
  | _ => none
def bInt : List D → Option EV
  | [.int i] => some (.dat (.int i))
  | [.bl b] => some (.dat (.int (if b then 1 else 0)))
  | _ => none
def bList : List D → Option EV
  | [.lst ds] => some (.new (.lst ds))
  | [.tup ds] => some (.new (.lst ds))
  | _ => none
def bTuple : List D → Option EV
  | [.lst ds] => some (.dat (.tup ds))
  | [.tup ds] => some (.dat (.tup ds))
  | _ => none
def bDivmod : List D → Option EV
  | [.int i, .int j] => if 0 < j ∧ j < 1073741824 then some (.dat (.tup [.int (i / j), .int (i % j)])) else none
  | _ => none
section
variable {K : PySem.W.Frag} {L : Addr → Prop} {H : Hp}
theorem sees1 {d : D} {xs : List V} (h : SeesR K L H [d] xs) : ∃ x, xs = [x] ∧ SeeR K L H d x := by
  obtain ⟨v, r, rfl, h1, h2⟩ := h
  have h2 : r = [] := h2
  subst h2
  exact ⟨v, rfl, h1⟩
theorem sees2 {d e : D} {xs : List V} (h : SeesR K L H [d, e] xs) : ∃ x y, xs = [x, y] ∧ SeeR K L H d x ∧ SeeR K L H e y := by
  obtain ⟨v, r, rfl, h1, h2⟩ := h
  obtain ⟨y, rfl, h3⟩ := sees1 h2
  exact ⟨v, y, rfl, h1, h3⟩
theorem bls_rep : ∀ {ds : List D} {bs : List Bool} {vs : List V}, bls ds = some bs → Reps K L H ds vs → vs = bs.map V.bl
  | [], bs, vs, h, r => by cases h; exact r.invN
  | d :: ds, bs, vs, h, r => by
    obtain ⟨v, rs, rfl, h1, h2⟩ := r.inv
    cases d <;> simp only [bls, reduceCtorEq] at h
    cases e : bls ds with
    | none => rw [e] at h; cases h
    | some cs =>
      rw [e] at h; cases h
      simp only [Rep] at h1
      rw [h1, bls_rep e h2] <;> rfl
theorem ints_rep : ∀ {ds : List D} {bs : List Int} {vs : List V}, toInts ds = some bs → Reps K L H ds vs → vs = bs.map V.int
  | [], bs, vs, h, r => by cases h; exact r.invN
  | d :: ds, bs, vs, h, r => by
    obtain ⟨v, rs, rfl, h1, h2⟩ := r.inv
    cases d <;> simp only [toInts, reduceCtorEq] at h
    cases e : toInts ds with
    | none => rw [e] at h; cases h
    | some cs =>
      rw [e] at h; cases h
      simp only [Rep] at h1
      rw [h1, ints_rep e h2] <;> rfl
theorem maxI_ge : ∀ (ns : List Int) (m : Int), m ≤ maxI m ns ∧ (∀ n ∈ ns, n ≤ maxI m ns) ∧ (maxI m ns = m ∨ maxI m ns ∈ ns)
  | [], m => ⟨Int.le_refl _, by simp, .inl rfl⟩
  | n :: ns, m => by
    by_cases e : m < n
    · obtain ⟨h1, h2, h3⟩ := maxI_ge ns n
      simp only [maxI, if_pos e]
      refine ⟨by omega, fun k hk => ?_, ?_⟩
      · rcases List.mem_cons.mp hk with rfl | hk
        · exact h1
        · exact h2 k hk
      · rcases h3 with h3 | h3
        · rw [h3]; exact .inr List.mem_cons_self
        · exact .inr (List.mem_cons_of_mem _ h3)
    · obtain ⟨h1, h2, h3⟩ := maxI_ge ns m
      simp only [maxI, if_neg e]
      refine ⟨h1, fun k hk => ?_, ?_⟩
      · rcases List.mem_cons.mp hk with rfl | hk
        · omega
        · exact h2 k hk
      · rcases h3 with h3 | h3
        · exact .inl h3
        · exact .inr (List.mem_cons_of_mem _ h3)
theorem minI_le : ∀ (ns : List Int) (m : Int), minI m ns ≤ m ∧ (∀ n ∈ ns, minI m ns ≤ n) ∧ (minI m ns = m ∨ minI m ns ∈ ns)
  | [], m => ⟨Int.le_refl _, by simp, .inl rfl⟩
  | n :: ns, m => by
    by_cases e : n < m
    · obtain ⟨h1, h2, h3⟩ := minI_le ns n
      simp only [minI, if_pos e]
      refine ⟨by omega, fun k hk => ?_, ?_⟩
      · rcases List.mem_cons.mp hk with rfl | hk
        · exact h1
        · exact h2 k hk
      · rcases h3 with h3 | h3
        · rw [h3]; exact .inr List.mem_cons_self
        · exact .inr (List.mem_cons_of_mem _ h3)
    · obtain ⟨h1, h2, h3⟩ := minI_le ns m
      simp only [minI, if_neg e]
      refine ⟨h1, fun k hk => ?_, ?_⟩
      · rcases List.mem_cons.mp hk with rfl | hk
        · omega
        · exact h2 k hk
      · rcases h3 with h3 | h3
        · exact .inl h3
        · exact .inr (List.mem_cons_of_mem _ h3)
theorem max_uniq {ns : List Int} {n m : Int} (h1 : m ∈ n :: ns) (h2 : ∀ y, y ∈ n :: ns → y ≤ m) : m = maxI n ns := by
  obtain ⟨a, b, c⟩ := maxI_ge ns n
  have h3 : maxI n ns ∈ n :: ns := by
    rcases c with c | c
    · rw [c]; exact List.mem_cons_self
    · exact List.mem_cons_of_mem _ c
  have h4 := h2 _ h3
  rcases List.mem_cons.mp h1 with e | h1
  · omega
  · have := b m h1; omega
theorem min_uniq {ns : List Int} {n m : Int} (h1 : m ∈ n :: ns) (h2 : ∀ y, y ∈ n :: ns → m ≤ y) : m = minI n ns := by
  obtain ⟨a, b, c⟩ := minI_le ns n
  have h3 : minI n ns ∈ n :: ns := by
    rcases c with c | c
    · rw [c]; exact List.mem_cons_self
    · exact List.mem_cons_of_mem _ c
  have h4 := h2 _ h3
  rcases List.mem_cons.mp h1 with e | h1
  · omega
  · have := b m h1; omega
end
section
variable {X : Cx}
def rLen (K : PySem.W.Frag) : List V → Hp → VK → Prop := fun xs H Q => ((∃ p ys, xs = [.ref p] ∧ (SqL K H p ys ∨ SqT K H p ys) ∧ Q (.int ys.length) H) ∨ (∃ z, xs = [.str z] ∧ z.length ≤ sizeLine ∧ Q (.int z.length) H)) ∨ (∃ a kvs, xs = [V.ref a] ∧ H a = some (.dK kvs) ∧ Q (.int kvs.length) H)
theorem or_len : CallR X (.builtin "len") (rLen X.K) := CallR.or (CallR.or call_len_seq call_len_str) call_lenD
theorem on_len : OpN X.K bLen (rLen X.K) := by
  intro Acc ι μ H ds xs e Q S r h q
  unfold bLen at h
  split at h
  · replace r := sees1 r; obtain ⟨x, rfl, r⟩ := r
    split at h
    · rename_i hl
      cases h
      rw [seeS r]
      exact .inl (.inr ⟨_, rfl, lim_ok hl, fin_dat S q rep_int⟩)
    · cases h
  · replace r := sees1 r; obtain ⟨x, rfl, r⟩ := r
    cases h
    obtain ⟨a, vs, rfl, t, r⟩ := seeT r
    rw [← r.len] at q
    exact .inl (.inl ⟨a, vs, rfl, .inr t.sq, fin_dat S q rep_int⟩)
  · replace r := sees1 r; obtain ⟨x, rfl, r⟩ := r
    cases h
    obtain ⟨a, vs, rfl, t, r⟩ := r
    rw [← r.len] at q
    exact .inl (.inl ⟨a, vs, rfl, .inl (SqL.of t), fin_dat S q rep_int⟩)
  · replace r := sees1 r; obtain ⟨x, rfl, r⟩ := r
    cases h
    obtain ⟨a, vs, rfl, t, hl, r⟩ := r
    rename_i ks ds'
    have e : (ks.zip vs).length = ks.length := by rw [List.length_zip, r.len, ← hl, Nat.min_self]
    rw [← e] at q
    exact .inr ⟨a, _, rfl, t, fin_dat S q rep_int⟩
  · replace r := sees1 r; obtain ⟨x, rfl, r⟩ := r
    cases h
    rename_i ns
    obtain ⟨a, rfl, t⟩ := (by simpa only [SeeR, Rep] using r : ∃ a, x = .ref a ∧ LstN X.K (Liv Acc μ ι) H a (ns.map V.int))
    have e : (ns.map V.int).length = ns.length := List.length_map _
    rw [← e] at q
    exact .inl (.inl ⟨a, _, rfl, .inl t.sq, fin_dat S q rep_int⟩)
  · cases h
theorem on_all : OpN X.K bAll (rAll X.K) := by
  intro Acc ι μ H ds xs e Q S r h q
  unfold bAll at h
  split at h
  · rename_i ds'
    cases hb : bls ds' with
    | none => rw [hb] at h; cases h
    | some bs =>
      rw [hb] at h; cases h
      obtain ⟨x, rfl, a, vs, rfl, t, r⟩ := sees1 r
      rw [bls_rep hb r] at t
      exact ⟨a, bs, rfl, SqL.of t, fin_dat S q rep_bl⟩
  · cases h
theorem on_any : OpN X.K bAny (rAny X.K) := by
  intro Acc ι μ H ds xs e Q S r h q
  unfold bAny at h
  split at h
  · rename_i ds'
    cases hb : bls ds' with
    | none => rw [hb] at h; cases h
    | some bs =>
      rw [hb] at h; cases h
      obtain ⟨x, rfl, a, vs, rfl, t, r⟩ := sees1 r
      rw [bls_rep hb r] at t
      exact ⟨a, bs, rfl, SqL.of t, fin_dat S q rep_bl⟩
  · cases h
theorem on_sum : OpN X.K bSum (rSum X.K) := by
  intro Acc ι μ H ds xs e Q S r h q
  unfold bSum at h
  split at h
  · rename_i ds'
    cases hb : toInts ds' with
    | none => rw [hb] at h; cases h
    | some bs =>
      rw [hb] at h; cases h
      obtain ⟨x, rfl, a, vs, rfl, t, r⟩ := sees1 r
      rw [ints_rep hb r] at t
      exact ⟨a, bs, rfl, SqL.of t, fin_dat S q rep_int⟩
  · rename_i ns
    cases h
    replace r := sees1 r; obtain ⟨x, rfl, r⟩ := r
    obtain ⟨a, rfl, t⟩ := (by simpa only [SeeR, Rep] using r : ∃ a, x = .ref a ∧ LstN X.K (Liv Acc μ ι) H a (ns.map V.int))
    exact ⟨a, ns, rfl, t.sq, fin_dat S q rep_int⟩
  · cases h
def rMaxAll (K : PySem.W.Frag) : List V → Hp → VK → Prop := fun xs H Q => (∃ i j, xs = [.int i, .int j] ∧ Q (.int (if j > i then j else i)) H) ∨ rMax K xs H Q
def rMinAll (K : PySem.W.Frag) : List V → Hp → VK → Prop := fun xs H Q => (∃ i j, xs = [.int i, .int j] ∧ Q (.int (if j < i then j else i)) H) ∨ rMin K xs H Q
theorem or_max (hc : X.calm = true) : CallR X (.builtin "max") (rMaxAll X.K) := CallR.or (call_max2 hc) (cr_max hc)
theorem or_min (hc : X.calm = true) : CallR X (.builtin "min") (rMinAll X.K) := CallR.or (call_min2 hc) (cr_min hc)
theorem on_max : OpN X.K bMax (rMaxAll X.K) := by
  intro Acc ι μ H ds xs e Q S r h q
  unfold bMax at h
  split at h
  · cases h
    obtain ⟨x, y, rfl, r1, r2⟩ := sees2 r
    rw [seeI r1, seeI r2]
    exact .inl ⟨_, _, rfl, fin_dat S q rep_int⟩
  · rename_i ds'
    split at h
    · rename_i n ns hb
      cases h
      obtain ⟨x, rfl, a, vs, rfl, t, r⟩ := sees1 r
      rw [ints_rep hb r] at t
      refine .inr ⟨a, n :: ns, rfl, SqL.of t, by simp, fun m h1 h2 => ?_⟩
      rw [max_uniq h1 h2]
      exact fin_dat S q rep_int
    · cases h
  · cases h
theorem on_min : OpN X.K bMin (rMinAll X.K) := by
  intro Acc ι μ H ds xs e Q S r h q
  unfold bMin at h
  split at h
  · cases h
    obtain ⟨x, y, rfl, r1, r2⟩ := sees2 r
    rw [seeI r1, seeI r2]
    exact .inl ⟨_, _, rfl, fin_dat S q rep_int⟩
  · rename_i ds'
    split at h
    · rename_i n ns hb
      cases h
      obtain ⟨x, rfl, a, vs, rfl, t, r⟩ := sees1 r
      rw [ints_rep hb r] at t
      refine .inr ⟨a, n :: ns, rfl, SqL.of t, by simp, fun m h1 h2 => ?_⟩
      rw [min_uniq h1 h2]
      exact fin_dat S q rep_int
    · cases h
  · cases h
theorem on_abs : OpN X.K bAbs (fun xs H Q => ∃ i, xs = [.int i] ∧ Q (.int (if i < 0 then -i else i)) H) := by
  intro Acc ι μ H ds xs e Q S r h q
  unfold bAbs at h
  split at h
  · cases h
    replace r := sees1 r; obtain ⟨x, rfl, r⟩ := r
    rw [seeI r]
    exact ⟨_, rfl, fin_dat S q rep_int⟩
  · cases h
theorem on_int : OpN X.K bInt (fun xs H Q => (∃ i, xs = [.int i] ∧ Q (.int i) H) ∨ ∃ k, xs = [.bl k] ∧ Q (.int (if k then 1 else 0)) H) := by
  intro Acc ι μ H ds xs e Q S r h q
  unfold bInt at h
  split at h
  · cases h
    replace r := sees1 r; obtain ⟨x, rfl, r⟩ := r
    rw [seeI r]
    exact .inl ⟨_, rfl, fin_dat S q rep_int⟩
  · cases h
    replace r := sees1 r; obtain ⟨x, rfl, r⟩ := r
    rw [seeB r]
    exact .inr ⟨_, rfl, fin_dat S q rep_int⟩
  · cases h
theorem on_list : OpN X.K bList (fun xs H Q => ∃ p ys, xs = [.ref p] ∧ (SqL X.K H p ys ∨ SqT X.K H p ys) ∧ ∀ l, H l = none → Q (.ref l) (upd H l (.lst ys))) := by
  intro Acc ι μ H ds xs e Q S r h q
  unfold bList at h
  split at h
  · cases h
    obtain ⟨x, rfl, a, vs, rfl, t, r⟩ := sees1 r
    exact ⟨a, vs, rfl, .inl (SqL.of t), fun l n => fin_lst S q r n⟩
  · cases h
    replace r := sees1 r; obtain ⟨x, rfl, r⟩ := r
    obtain ⟨a, vs, rfl, t, r⟩ := seeT r
    exact ⟨a, vs, rfl, .inr t.sq, fun l n => fin_lst S q r n⟩
  · cases h
theorem on_tuple : OpN X.K bTuple (fun xs H Q => ∃ p ys, xs = [.ref p] ∧ ((SqL X.K H p ys ∧ ∀ l, H l = none → Q (.ref l) (upd H l (.tup ys))) ∨ (SqT X.K H p ys ∧ Q (.ref p) H))) := by
  intro Acc ι μ H ds xs e Q S r h q
  unfold bTuple at h
  split at h
  · cases h
    obtain ⟨x, rfl, a, vs, rfl, t, r⟩ := sees1 r
    exact ⟨a, vs, rfl, .inl ⟨SqL.of t, fun l n => fin_tup S q r n⟩⟩
  · cases h
    replace r := sees1 r; obtain ⟨x, rfl, r⟩ := r
    obtain ⟨a, vs, rfl, t, r⟩ := seeT r
    exact ⟨a, vs, rfl, .inr ⟨t.sq, fin_dat S q (by simp only [Rep]; exact ⟨a, vs, rfl, t, r⟩)⟩⟩
  · cases h
theorem on_divmod : OpN X.K bDivmod (fun xs H Q => ∃ i j, xs = [.int i, .int j] ∧ CDiv i j ∧ ∀ p, H p = none → Q (.ref p) (upd H p (.tup [.int (i / j), .int (i % j)]))) := by
  intro Acc ι μ H ds xs e Q S r h q
  unfold bDivmod at h
  split at h
  · split at h
    · rename_i hc
      cases h
      obtain ⟨x, y, rfl, r1, r2⟩ := sees2 r
      rw [seeI r1, seeI r2]
      exact ⟨_, _, rfl, hc, fun p n => fin_tup S q (Reps.cons rep_int (Reps.cons rep_int Reps.nil)) n⟩
    · cases h
  · cases h
end
end VM
/-! What is walked: sources; targets; list comprehensions. -/
namespace VM
open PySem L2 PyProof.Rows

/-! ### 1. sources -/
inductive Src where
  /-- told items -/
  | vals (ds : List D)
  /-- a cell's items, as they stand at each turn -/
  | cell (k : Nat)
  /-- the same, numbered -/
  | ecell (k : Nat)
def enumD (ds : List D) : List D := ds.zipIdx.map fun p => .tup [.int (p.2 : Nat), p.1]
def Src.at (s : Src) (μ : Sto) : Option (List D) := match s with
  | .vals ds => some ds
  | .ecell k => match μ[k]? with
    | some c => match c.val with
      | .lst ds => some (enumD ds)
      | _ => none
    | none => none
  | .cell k => match μ[k]? with
    | some c => match c.val with
      | .lst ds => some ds
      | _ => none
    | none => none
abbrev SI := Fns → Env → Sto → Res Src
/-- an iterator walks a source, from (ι0, μ0, H0) on -/
def JR (K : PySem.W.Frag) (J : It) (s : Src) (Acc : Addr → Prop) (ι0 : List Addr) (μ0 : Sto) (H0 : Hp) : Prop :=
  ∀ (Acc' : Addr → Prop) (ι : List Addr) (μ : Sto) (H : Hp), Sim K Acc' μ ι H → Mv (Liv Acc μ0 ι0) H0 (Liv Acc' μ ι) H → (∀ (k : Nat) a, ι0[k]? = some a → ι[k]? = some a) → ∀ ds, s.at μ = some ds → ∀ i : Nat,
    (∀ d, ds[i]? = some d → J.go i H ∧ ∀ x H', J.yld i H x H' → Stp K Acc' ι μ H ι μ H' ∧ Rep K (Liv Acc' μ ι) H' d x) ∧ (ds.length ≤ i → J.stop i H)
def rdI (K : PySem.W.Frag) (XC : Nat → Addr) (F : Fns) (W : WX) (f : SI) : TI := fun σ H R =>
  ∃ (Acc : Addr → Prop) (ι : List Addr) (ρ : Env) (μ : Sto), Sim K Acc μ ι H ∧ EnvR K (Liv Acc μ ι) ι H ρ σ ∧ match f F ρ μ with
    | .ok s μ' => ∀ J H', Stp K Acc ι μ H ι μ' H' → JR K J s Acc ι μ' H' → R J H'
    | .exc x μ' => ∀ c d H', Stp K Acc ι μ H ι μ' H' → ExcR K XC (Liv Acc μ' ι) H H' x c d → W c d σ H'
    | .bad => False
/-- the items of a value -/
def srcOf (v : EV) (μ : Sto) : Option Src := match v with
  | .dat (.tup ds) => some (.vals ds)
  | .dat (.lst ds) => some (.vals ds)
  | .dat (.scr ns) => some (.vals (ns.map .int))
  | .dat (.str x) => some (.vals (x.cps.toList.map fun c => .str ⟨#[c]⟩))
  | .new (.lst ds) => some (.vals ds)
  | .cel k => match μ[k]? with
    | some c => match c.val with
      | .lst _ => some (.cell k)
      | _ => none
    | none => none
  | _ => none
def iOf (f : SE) : SI := fun F ρ μ => (f F ρ μ).bind fun v μ1 => match srcOf v μ1 with
  | some s => .ok s μ1
  | none => .bad
theorem PIimp {X : Cx} {tg e : Expr} {t t' : TI} (h : PI X tg e t) (i : ∀ σ H Q, t' σ H Q → t σ H Q) : PI X tg e t' := ⟨fun pins s σ H Q I q => h.run pins s σ H Q I (i σ H Q q)⟩
section
variable {K : PySem.W.Frag} {Acc : Addr → Prop} {ι : List Addr} {μ : Sto} {H : Hp}
theorem Reps.ints : ∀ (ns : List Int), Reps K (Liv Acc μ ι) H (ns.map .int) (ns.map V.int)
  | [] => Reps.nil
  | n :: ns => Reps.cons rep_int (Reps.ints ns)
/-- a list that stands still -/
theorem jr_still {a : Addr} {ds : List D} {vs : List V} (h : LstN K (Liv Acc μ ι) H a vs) (r : Reps K (Liv Acc μ ι) H ds vs) : JR K (Itl K a) (.vals ds) Acc ι μ H := by
  intro Acc' ι' μ' H' S m _ es he i
  cases he
  have h' := h.mv m
  have r' := Reps.mv m _ _ r
  refine ⟨fun d hd => ?_, fun hl => ⟨vs, h'.sq, by rw [r'.len]; exact hl⟩⟩
  obtain ⟨v, hv, rv⟩ := r'.get hd
  refine ⟨⟨vs, v, h'.sq, hv⟩, fun x H'' y => ?_⟩
  obtain ⟨e, y⟩ := y
  subst e
  have e2 := y vs h'.sq
  rw [hv] at e2
  cases e2
  exact ⟨.refl S, rv⟩
theorem jr_tup {a : Addr} {ds : List D} {vs : List V} (h : TupN K (Liv Acc μ ι) H a vs) (r : Reps K (Liv Acc μ ι) H ds vs) : JR K (Itt K a) (.vals ds) Acc ι μ H := by
  intro Acc' ι' μ' H' S m _ es he i
  cases he
  have h' := h.mv m
  have r' := Reps.mv m _ _ r
  refine ⟨fun d hd => ?_, fun hl => ⟨vs, h'.sq, by rw [r'.len]; exact hl⟩⟩
  obtain ⟨v, hv, rv⟩ := r'.get hd
  refine ⟨⟨vs, v, h'.sq, hv⟩, fun x H'' y => ?_⟩
  obtain ⟨e, y⟩ := y
  subst e
  have e2 := y vs h'.sq
  rw [hv] at e2
  cases e2
  exact ⟨.refl S, rv⟩
theorem jr_cell {k : Nat} {a : Addr} (e : ι[k]? = some a) : JR K (Itl K a) (.cell k) Acc ι μ H := by
  intro Acc' ι' μ' H' S m pr es he i
  have e' := pr k a e
  simp only [Src.at] at he
  cases hc : μ'[k]? with
  | none => rw [hc] at he; cases he
  | some c =>
    rw [hc] at he
    simp only at he
    obtain ⟨b, e1, r⟩ := S.cell k c hc
    rw [e'] at e1; cases e1
    cases hv : c.val with
    | dic ks ds => rw [hv] at he; cases he
    | lst ds =>
      rw [hv] at he r
      cases he
      obtain ⟨vs, hl, rr⟩ := r
      refine ⟨fun d hd => ?_, fun hle => ⟨vs, SqL.of hl, by rw [rr.len]; exact hle⟩⟩
      obtain ⟨v, hv, rv⟩ := rr.get hd
      refine ⟨⟨vs, v, SqL.of hl, hv⟩, fun x H'' y => ?_⟩
      obtain ⟨e, y⟩ := y
      subst e
      have e2 := y vs (SqL.of hl)
      rw [hv] at e2
      cases e2
      exact ⟨.refl S, rv⟩
theorem jr_str {x : Str} : JR K (Its x) (.vals (x.cps.toList.map fun c => .str ⟨#[c]⟩)) Acc ι μ H := by
  intro Acc' ι' μ' H' S m _ es he i
  cases he
  refine ⟨fun d hd => ?_, fun hl => ?_⟩
  · rw [List.getElem?_map] at hd
    cases hc : x.cps.toList[i]? with
    | none => rw [hc] at hd; cases hd
    | some c =>
      rw [hc] at hd; cases hd
      refine ⟨?_, fun v H'' y => ?_⟩
      · have := (List.getElem?_eq_some_iff.mp hc).1
        show i < x.cps.size
        simpa using this
      · obtain ⟨e, c', hc', rfl⟩ := y
        subst e
        rw [← Array.getElem?_toList, hc] at hc'
        cases hc'
        exact ⟨.refl S, rep_str⟩
  · rw [List.length_map, Array.length_toList] at hl
    exact hl
theorem jr_range {lo c : Int} {n : Nat} : JR K (Itc lo c n) (.vals ((List.range n).map fun i => .int (lo + (i : Nat) * c))) Acc ι μ H := by
  intro Acc' ι' μ' H' S m _ es he i
  cases he
  refine ⟨fun d hd => ?_, fun hl => ?_⟩
  · rw [List.getElem?_map] at hd
    cases hc : (List.range n)[i]? with
    | none => rw [hc] at hd; cases hd
    | some j =>
      rw [hc] at hd; cases hd
      obtain ⟨hi, e⟩ := List.getElem?_eq_some_iff.mp hc
      rw [List.length_range] at hi
      rw [List.getElem_range] at e
      subst e
      refine ⟨hi, fun v H'' y => ?_⟩
      obtain ⟨e, rfl⟩ := y
      subst e
      exact ⟨.refl S, rep_int⟩
  · rw [List.length_map, List.length_range] at hl
    exact hl
theorem jr_range1 {lo : Int} {n : Nat} : JR K (Itr lo n) (.vals ((List.range n).map fun i => .int (lo + (i : Nat)))) Acc ι μ H := by
  intro Acc' ι' μ' H' S m _ es he i
  cases he
  refine ⟨fun d hd => ?_, fun hl => ?_⟩
  · rw [List.getElem?_map] at hd
    cases hc : (List.range n)[i]? with
    | none => rw [hc] at hd; cases hd
    | some j =>
      rw [hc] at hd; cases hd
      obtain ⟨hi, e⟩ := List.getElem?_eq_some_iff.mp hc
      rw [List.length_range] at hi
      rw [List.getElem_range] at e
      subst e
      refine ⟨hi, fun v H'' y => ?_⟩
      obtain ⟨e, rfl⟩ := y
      subst e
      exact ⟨.refl S, rep_int⟩
  · rw [List.length_map, List.length_range] at hl
    exact hl
end
section
variable {X : Cx} {XC : Nat → Addr} {F : Fns} {W : WX} {tg e a b c : Expr} {fe : SE} {fa : SA} {pos p : Pos}
theorem rdI_of {K : PySem.W.Frag} {σ : L2.St} {H : Hp} {R : It → Hp → Prop} (h : rdI K XC F W (iOf fe) σ H R) : rdE K XC F W fe σ H fun v H1 => (∃ a, v = .ref a ∧ (∃ xs, SqL K H1 a xs) ∧ R (Itl K a) H1) ∨ (∃ a, v = .ref a ∧ (∃ xs, SqT K H1 a xs) ∧ R (Itt K a) H1) ∨ ∃ x, v = .str x ∧ R (Its x) H1 := by
  obtain ⟨Acc, ι, ρ, μ, S, E, h⟩ := h
  refine ⟨Acc, ι, ρ, μ, S, E, ?_⟩
  unfold iOf at h
  cases er : fe F ρ μ with
  | bad => rw [er] at h; exact h
  | exc x μ1 => rw [er] at h; exact h
  | ok v μ1 =>
    rw [er] at h
    simp only [Res.bind] at h
    intro u H1 t1 r1
    replace r1 := r1.1
    cases es : srcOf v μ1 with
    | none => rw [es] at h; exact h.elim
    | some s =>
      rw [es] at h
      simp only at h
      unfold srcOf at es
      split at es
      · cases es
        rename_i ds
        obtain ⟨a, vs, rfl, tp, rp⟩ := (by simpa only [EvR, Rep] using r1 : ∃ a vs, u = .ref a ∧ TupN K _ H1 a vs ∧ Reps K _ H1 ds vs)
        exact .inr (.inl ⟨a, rfl, ⟨vs, tp.sq⟩, h _ H1 t1 (jr_tup tp rp)⟩)
      · cases es
        rename_i ds
        obtain ⟨a, vs, rfl, tp, n, rp⟩ := (by simpa only [EvR, Rep] using r1 : ∃ a vs, u = .ref a ∧ H1 a = some (.lst vs) ∧ ¬ Liv Acc μ1 ι a ∧ Reps K _ H1 ds vs)
        exact .inl ⟨a, rfl, ⟨vs, SqL.of tp⟩, h _ H1 t1 (jr_still (.inl ⟨.inl tp, n⟩) rp)⟩
      · cases es
        rename_i ns
        obtain ⟨a, rfl, tp⟩ := (by simpa only [EvR, Rep] using r1 : ∃ a, u = .ref a ∧ LstN K _ H1 a (ns.map V.int))
        exact .inl ⟨a, rfl, ⟨_, tp.sq⟩, h _ H1 t1 (jr_still tp (Reps.ints ns))⟩
      · cases es
        rename_i x
        have e : u = .str x := r1
        exact .inr (.inr ⟨x, e, h _ H1 t1 jr_str⟩)
      · cases es
        rename_i ds
        obtain ⟨p, rfl, n, vs, hv, rp⟩ := r1
        have nl : ¬ Liv Acc μ1 ι p := fun z => by
          rcases z with z | z
          · exact S.trk z.mem n
          · exact (S.acc p z).2 n
        exact .inl ⟨p, rfl, ⟨vs, SqL.of hv⟩, h _ H1 t1 (jr_still (.inl ⟨.inl hv, nl⟩) rp)⟩
      · rename_i k
        obtain ⟨a, ea, rfl⟩ := r1
        cases hc : μ1[k]? with
        | none => rw [hc] at es; cases es
        | some c =>
          rw [hc] at es
          simp only at es
          cases hv : c.val with
          | dic ks ds => rw [hv] at es; cases es
          | lst ds =>
            rw [hv] at es
            cases es
            obtain ⟨b, e1, r⟩ := t1.sim.cell k c hc
            rw [ea] at e1; cases e1
            rw [hv] at r
            obtain ⟨vs, hl, rp⟩ := r
            exact .inl ⟨a, rfl, ⟨vs, SqL.of hl⟩, h _ H1 t1 (jr_cell ea)⟩
      · cases es
theorem ci_of (he : PE X e (rdE X.K XC F W fe)) : PI X tg e (rdI X.K XC F W (iOf fe)) := by
  refine ⟨fun pins s σ H R I h => ?_⟩
  have key : ∀ P : V → Hp → Prop, rdE X.K XC F W fe σ H P → wpAny (model X.prog X.w) X.A (eval e X.env) (EP X pins σ P) X.xe s := fun P q => he.run pins s σ H P I q
  have h' := rdI_of h
  refine thn (key _ h') fun v s1 ⟨x, H1, I1, r1, q1⟩ => ?_
  -- each way by the layer's own rule, at the value that has come
  rcases q1 with ⟨a, rfl, ⟨xs, hq⟩, q⟩ | ⟨a, rfl, ⟨xs, hq⟩, q⟩ | ⟨x, rfl, q⟩
  · cases r1
    obtain ⟨its, rv, p, hz⟩ := I1.list hq
    refine wpAny_pyIter_list p.isList ?_
    refine ⟨s1.heap.objs.size, [s1.heap.objs.size], _, _, H1, rfl, I1.kept (t' := s1.toks) fun b o e => Heap.get?_push_of_some _ e, turn_list a _, ⟨_, Heap.get?_push_size _ rfl, rfl, rfl⟩, fun b hb => ?_, q⟩
    have e : b = s1.heap.objs.size := by simpa using hb
    subst e
    exact I1.fpOk (Nat.le_refl _) (I1.hok.fresh (Nat.le_refl _))
  · cases r1
    obtain ⟨its, rv, p, hz⟩ := I1.tuple hq
    refine wpAny_pyIter_tuple (show s1.heap.IsTuple a its.toArray from p) ?_
    refine ⟨s1.heap.objs.size, [s1.heap.objs.size], _, _, H1, rfl, I1.kept (t' := s1.toks) fun b o e => Heap.get?_push_of_some _ e, turn_tuple a _, ⟨_, Heap.get?_push_size _ rfl, rfl, rfl⟩, fun b hb => ?_, q⟩
    have e : b = s1.heap.objs.size := by simpa using hb
    subst e
    exact I1.fpOk (Nat.le_refl _) (I1.hok.fresh (Nat.le_refl _))
  · obtain ⟨t, rfl⟩ := r1
    cases ha : x.cps.all (· < 128)
    · exact wpAny_pyIter_wide ha (pi_one (tk := s1.toks) I1 _ (turn_str _ x t "str_iterator" (.inr rfl)) ⟨_, Heap.get?_push_size _ rfl, rfl, rfl⟩ q)
    · exact wpAny_pyIter_ascii ha (pi_one (tk := s1.toks) I1 _ (turn_str _ x t "str_ascii_iterator" (.inl rfl)) ⟨_, Heap.get?_push_size _ rfl, rfl, rfl⟩ q)
/-- ranges -/
def rangeOf : List EV → Option Src
  | [.dat (.int n)] => if -1000000 ≤ n ∧ n ≤ 1000000 then some (.vals ((List.range n.toNat).map fun i => .int ((0 : Int) + (i : Nat)))) else none
  | [.dat (.int m), .dat (.int n)] => if -1000000 ≤ n ∧ n ≤ 1000000 ∧ -1000000 ≤ m ∧ m ≤ 1000000 then some (.vals ((List.range (n - m).toNat).map fun i => .int (m + (i : Nat)))) else none
  | [.dat (.int m), .dat (.int n), .dat (.int c)] => if c = -1 ∧ -1000000 ≤ n ∧ n ≤ 1000000 ∧ -1000000 ≤ m ∧ m ≤ 1000000 then some (.vals ((List.range (m - n).toNat).map fun i => .int (m + (i : Nat) * (-1)))) else none
  | _ => none
def iRange (fa : SA) : SI := fun F ρ μ => (fa F ρ μ).bind fun vs μ1 => match rangeOf vs with
  | some s => .ok s μ1
  | none => .bad
theorem evs1 {K : PySem.W.Frag} {L : Addr → Prop} {ι : List Addr} {H0 H : Hp} {e : EV} {xs : List V} (h : EvsR K L ι H0 H [e] xs) : ∃ x, xs = [x] ∧ EvR K L ι H0 H e x := by
  obtain ⟨v, r, rfl, h1, h2⟩ := h
  have h2 : r = [] := h2
  subst h2
  exact ⟨v, rfl, h1⟩
theorem evs2 {K : PySem.W.Frag} {L : Addr → Prop} {ι : List Addr} {H0 H : Hp} {e f : EV} {xs : List V} (h : EvsR K L ι H0 H [e, f] xs) : ∃ x y, xs = [x, y] ∧ EvR K L ι H0 H e x ∧ EvR K L ι H0 H f y := by
  obtain ⟨v, r, rfl, h1, h2⟩ := h
  obtain ⟨y, rfl, h3⟩ := evs1 h2
  exact ⟨v, y, rfl, h1, h3⟩
theorem evs3 {K : PySem.W.Frag} {L : Addr → Prop} {ι : List Addr} {H0 H : Hp} {e f g : EV} {xs : List V} (h : EvsR K L ι H0 H [e, f, g] xs) : ∃ x y z, xs = [x, y, z] ∧ EvR K L ι H0 H e x ∧ EvR K L ι H0 H f y ∧ EvR K L ι H0 H g z := by
  obtain ⟨v, r, rfl, h1, h2⟩ := h
  obtain ⟨y, z, rfl, h3, h4⟩ := evs2 h2
  exact ⟨v, y, z, rfl, h1, h3, h4⟩
theorem ci_range1 (hg : Gl X "range") (hm : X.mg "range" = none) (ha : PA X [a] (rdA X.K XC F W fa)) (hs : starEach [a] X.env = [(false, eval a X.env)]) (h1 : ∀ F ρ μ vs μ', fa F ρ μ = .ok vs μ' → vs.length = 1) :
    PI X tg (.Call (.Name "range" p) [a] [] pos) (rdI X.K XC F W (iRange fa)) :=
  PIimp (pi_range1 hg hm ha hs) fun σ H R ⟨Acc, ι, ρ, μ, S, E, h⟩ => by
    refine ⟨Acc, ι, ρ, μ, S, E, ?_⟩
    unfold iRange at h
    cases er : fa F ρ μ with
    | bad => rw [er] at h; exact h
    | exc x μ1 => rw [er] at h; exact h
    | ok vs μ1 =>
      rw [er] at h
      simp only [Res.bind] at h
      intro u H1 t1 r1
      have hl := h1 _ _ _ _ _ er
      cases es : rangeOf vs with
      | none => rw [es] at h; exact h.elim
      | some s =>
        rw [es] at h
        simp only at h
        unfold rangeOf at es
        split at es
        · split at es
          · rename_i n hn
            cases es
            obtain ⟨x, rfl, rx⟩ := evs1 r1
            have e : x = .int n := rx
            subst e
            exact ⟨n, rfl, by omega, by omega, h _ H1 t1 jr_range1⟩
          · cases es
        · cases hl
        · cases hl
        · cases es
theorem ci_range2 (hg : Gl X "range") (hm : X.mg "range" = none) (ha : PA X [a, b] (rdA X.K XC F W fa)) (hs : starEach [a, b] X.env = [(false, eval a X.env), (false, eval b X.env)]) (hs2 : starEach [b] X.env = [(false, eval b X.env)]) (h1 : ∀ F ρ μ vs μ', fa F ρ μ = .ok vs μ' → vs.length = 2) :
    PI X tg (.Call (.Name "range" p) [a, b] [] pos) (rdI X.K XC F W (iRange fa)) :=
  PIimp (pi_range2 hg hm ha hs hs2) fun σ H R ⟨Acc, ι, ρ, μ, S, E, h⟩ => by
    refine ⟨Acc, ι, ρ, μ, S, E, ?_⟩
    unfold iRange at h
    cases er : fa F ρ μ with
    | bad => rw [er] at h; exact h
    | exc x μ1 => rw [er] at h; exact h
    | ok vs μ1 =>
      rw [er] at h
      simp only [Res.bind] at h
      intro u H1 t1 r1
      have hl := h1 _ _ _ _ _ er
      cases es : rangeOf vs with
      | none => rw [es] at h; exact h.elim
      | some s =>
        rw [es] at h
        simp only at h
        unfold rangeOf at es
        split at es
        · cases hl
        · split at es
          · rename_i m n hn
            cases es
            obtain ⟨x, y, rfl, rx, ry⟩ := evs2 r1
            have e : x = .int m := rx
            have e2 : y = .int n := ry
            subst e e2
            exact ⟨m, n, rfl, ⟨by omega, by omega, by omega, by omega⟩, h _ H1 t1 jr_range1⟩
          · cases es
        · cases hl
        · cases es
theorem ci_range3 (hg : Gl X "range") (hm : X.mg "range" = none) (ha : PA X [a, b, c] (rdA X.K XC F W fa)) (hs : starEach [a, b, c] X.env = (false, eval a X.env) :: starEach [b, c] X.env) (hpl : (backTo pos (starEach [b, c] X.env)).any (·.1) = false) (h1 : ∀ F ρ μ vs μ', fa F ρ μ = .ok vs μ' → vs.length = 3) :
    PI X tg (.Call (.Name "range" p) [a, b, c] [] pos) (rdI X.K XC F W (iRange fa)) :=
  PIimp (pi_range3 hg hm ha hs hpl) fun σ H R ⟨Acc, ι, ρ, μ, S, E, h⟩ => by
    refine ⟨Acc, ι, ρ, μ, S, E, ?_⟩
    unfold iRange at h
    cases er : fa F ρ μ with
    | bad => rw [er] at h; exact h
    | exc x μ1 => rw [er] at h; exact h
    | ok vs μ1 =>
      rw [er] at h
      simp only [Res.bind] at h
      intro u H1 t1 r1
      have hl := h1 _ _ _ _ _ er
      cases es : rangeOf vs with
      | none => rw [es] at h; exact h.elim
      | some s =>
        rw [es] at h
        simp only at h
        unfold rangeOf at es
        split at es
        · cases hl
        · cases hl
        · split at es
          · rename_i m n c hn
            cases es
            obtain ⟨x, y, z, rfl, rx, ry, rz⟩ := evs3 r1
            have e : x = .int m := rx
            have e2 : y = .int n := ry
            have e3 : z = .int c := rz
            subst e e2 e3
            obtain ⟨hc, _⟩ := hn
            subst hc
            exact ⟨m, n, -1, (m - n).toNat, rfl, RgC.neg (by omega) (by omega) (by omega) (by omega), h _ H1 t1 jr_range⟩
          · cases es
        · cases es
theorem evs_len : ∀ (fs : List SE) (F : Fns) (ρ : Env) (μ : Sto) (vs : List EV) (μ' : Sto), evs fs F ρ μ = .ok vs μ' → vs.length = fs.length
  | [], F, ρ, μ, vs, μ', h => by cases h; rfl
  | f :: fs, F, ρ, μ, vs, μ', h => by
    simp only [evs] at h
    cases e : f F ρ μ with
    | bad => rw [e] at h; cases h
    | exc x μ1 => rw [e] at h; cases h
    | ok v μ1 =>
      rw [e] at h
      simp only [Res.bind] at h
      cases e2 : evs fs F ρ μ1 with
      | bad => rw [e2] at h; cases h
      | exc x μ2 => rw [e2] at h; cases h
      | ok ws μ2 =>
        rw [e2] at h
        cases h
        rw [List.length_cons, List.length_cons, evs_len fs F ρ μ1 ws _ e2]
end
end VM
/-! Targets of names; list comprehensions; the for loop. -/
namespace VM
open PySem L2 PyProof.Rows

/-! ### 1. targets -/
inductive Tgt where
  | nm (i : Nat) | tup (ts : List Tgt)
mutual
def asg : Tgt → D → Env → Option Env
  | .nm i, d, ρ => if i < ρ.length then some (ρ.set i (some (.dat d))) else none
  | .tup ts, .tup ds, ρ => asgs ts ds ρ
  | .tup _, _, _ => none
def asgs : List Tgt → List D → Env → Option Env
  | [], [], ρ => some ρ
  | t :: ts, d :: ds, ρ => match asg t d ρ with
    | some ρ1 => asgs ts ds ρ1
    | none => none
  | _, _, _ => none
end
mutual
def gT (K : PySem.W.Frag) : Tgt → TG
  | .nm i => gName i
  | .tup ts => gTup K ts.length (gTs K ts)
def gTs (K : PySem.W.Frag) : List Tgt → TGs
  | [] => gNil
  | t :: ts => gCons (gT K t) (gTs K ts)
end
mutual
def Tgt.slots : Tgt → List Nat
  | .nm i => [i]
  | .tup ts => slotsL ts
def slotsL : List Tgt → List Nat
  | [] => []
  | t :: ts => t.slots ++ slotsL ts
end
section
variable {K : PySem.W.Frag} {L : Addr → Prop} {ι : List Addr} {H : Hp}
theorem EnvR.set {ρ : Env} {σ : L2.St} {i : Nat} {s : SV} {v : V} (E : EnvR K L ι H ρ σ) (r : SvR K L ι H s v) : EnvR K L ι H (ρ.set i (some s)) (σ.set i (some v)) := by
  refine ⟨by rw [List.length_set, List.length_set]; exact E.1, fun j s' e => ?_⟩
  by_cases hj : i = j
  · subst hj
    by_cases hl : i < ρ.length
    · rw [List.getElem?_set_self hl] at e
      cases e
      exact ⟨v, List.getElem?_set_self (by rw [← E.1]; exact hl), r⟩
    · rw [List.getElem?_eq_none (by rw [List.length_set]; omega)] at e
      cases e
  · rw [List.getElem?_set_ne hj] at e
    obtain ⟨w, e1, r1⟩ := E.2 j s' e
    exact ⟨w, by rw [List.getElem?_set_ne hj]; exact e1, r1⟩
theorem EnvR.clr {ρ : Env} {σ : L2.St} {i : Nat} (E : EnvR K L ι H ρ σ) : EnvR K L ι H (ρ.set i none) (σ.set i none) := by
  refine ⟨by rw [List.length_set, List.length_set]; exact E.1, fun j s' e => ?_⟩
  by_cases hj : i = j
  · subst hj
    by_cases hl : i < ρ.length
    · rw [List.getElem?_set_self hl] at e
      cases e
    · rw [List.getElem?_eq_none (by rw [List.length_set]; omega)] at e
      cases e
  · rw [List.getElem?_set_ne hj] at e
    obtain ⟨w, e1, r1⟩ := E.2 j s' e
    exact ⟨w, by rw [List.getElem?_set_ne hj]; exact e1, r1⟩
def wipeE (ρ : Env) : List Nat → Env
  | [] => ρ
  | v :: vs => (wipeE ρ vs).set v none
theorem EnvR.wiped {ρ : Env} {σ : L2.St} (E : EnvR K L ι H ρ σ) : ∀ vs, EnvR K L ι H (wipeE ρ vs) (wipe σ vs)
  | [] => E
  | v :: vs => by
    unfold wipeE wipe
    exact (EnvR.wiped E vs).clr
theorem wipe_set {σ : L2.St} {i : Nat} {x : Option V} : ∀ {vs : List Nat}, i ∈ vs → wipe (σ.set i x) vs = wipe σ vs
  | [], h => absurd h (by simp)
  | v :: vs, h => by
    unfold wipe
    by_cases hv : i ∈ vs
    · rw [wipe_set hv]
    · have e : i = v := by
        rcases List.mem_cons.mp h with e | h
        · exact e
        · exact absurd h hv
      subst e
      have e2 : ∀ (ws : List Nat), i ∉ ws → wipe (σ.set i x) ws = (wipe σ ws).set i x := by
        intro ws
        induction ws with
        | nil => intro _; rfl
        | cons w ws ih =>
          intro hn
          unfold wipe
          rw [ih (fun z => hn (List.mem_cons_of_mem _ z))]
          exact List.set_comm _ _ (fun z => hn (z ▸ List.mem_cons_self))
      rw [e2 vs hv, List.set_set]
mutual
theorem gT_ok {Q : L2.St → Hp → Prop} : ∀ (t : Tgt) (d : D) (v : V) (ρ ρ' : Env) (σ : L2.St), asg t d ρ = some ρ' → Rep K L H d v → EnvR K L ι H ρ σ →
    (∀ σ', EnvR K L ι H ρ' σ' → (∀ vs : List Nat, (∀ i ∈ t.slots, i ∈ vs) → wipe σ' vs = wipe σ vs) → Q σ' H) → gT K t v σ H Q
  | .nm i, d, v, ρ, ρ', σ, h, r, E, q => by
    simp only [asg] at h
    split at h
    · cases h
      simp only [gT]
      exact q _ (E.set (s := .dat d) r) fun vs hv => wipe_set (hv i (by simp only [Tgt.slots]; exact List.mem_singleton.mpr rfl))
    · cases h
  | .tup ts, d, v, ρ, ρ', σ, h, r, E, q => by
    cases d <;> simp only [asg, reduceCtorEq] at h
    rename_i ds
    simp only [Rep] at r
    obtain ⟨a, vs, rfl, t, r⟩ := r
    have hl : ts.length = ds.length := asgs_len ts ds ρ ρ' h
    simp only [gT]
    exact ⟨a, vs, rfl, t.sq, by rw [r.len, hl], gTs_ok ts ds vs ρ ρ' σ h r E fun σ' E' w => q σ' E' fun ws hw => w ws fun i hi => hw i (by simp only [Tgt.slots]; exact hi)⟩
theorem gTs_ok {Q : L2.St → Hp → Prop} : ∀ (ts : List Tgt) (ds : List D) (vs : List V) (ρ ρ' : Env) (σ : L2.St), asgs ts ds ρ = some ρ' → Reps K L H ds vs → EnvR K L ι H ρ σ →
    (∀ σ', EnvR K L ι H ρ' σ' → (∀ ws : List Nat, (∀ i ∈ slotsL ts, i ∈ ws) → wipe σ' ws = wipe σ ws) → Q σ' H) → gTs K ts vs σ H Q
  | [], [], vs, ρ, ρ', σ, h, r, E, q => by
    simp only [asgs] at h
    cases h
    simp only [gTs]
    exact ⟨r.invN, q σ E fun _ _ => rfl⟩
  | [], _ :: _, vs, ρ, ρ', σ, h, r, E, q => by simp [asgs] at h
  | _ :: _, [], vs, ρ, ρ', σ, h, r, E, q => by simp [asgs] at h
  | t :: ts, d :: ds, vs, ρ, ρ', σ, h, r, E, q => by
    simp only [asgs] at h
    cases e : asg t d ρ with
    | none => rw [e] at h; cases h
    | some ρ1 =>
      rw [e] at h
      simp only at h
      obtain ⟨v, rs, rfl, h1, h2⟩ := r.inv
      simp only [gTs]
      refine ⟨v, rs, rfl, gT_ok t d v ρ ρ1 σ e h1 E fun σ1 E1 w1 => gTs_ok ts ds rs ρ1 ρ' σ1 h h2 E1 fun σ2 E2 w2 => q σ2 E2 fun ws hw => ?_⟩
      rw [w2 ws fun i hi => hw i (by simp only [slotsL]; exact List.mem_append_right _ hi), w1 ws fun i hi => hw i (by simp only [slotsL]; exact List.mem_append_left _ hi)]
theorem asgs_len : ∀ (ts : List Tgt) (ds : List D) (ρ ρ' : Env), asgs ts ds ρ = some ρ' → ts.length = ds.length
  | [], [], ρ, ρ', h => rfl
  | [], _ :: _, ρ, ρ', h => by simp [asgs] at h
  | _ :: _, [], ρ, ρ', h => by simp [asgs] at h
  | t :: ts, d :: ds, ρ, ρ', h => by
    simp only [asgs] at h
    cases e : asg t d ρ with
    | none => rw [e] at h; cases h
    | some ρ1 =>
      rw [e] at h
      rw [List.length_cons, List.length_cons, asgs_len ts ds ρ1 ρ' h]
end
end

/-! ### 2. list comprehensions -/
def bYes : SB := fun _ _ μ => .ok true μ
/-- nothing is raised out of a comprehension -/
def Res.nox {α : Type} (r : Res α) : Res α := match r with
  | .ok a μ => .ok a μ
  | _ => .bad
def lcStep (F : Fns) (t : Tgt) (ifs : SB) (elt : SE) (ρ0 : Env) (d : D) (μ : Sto) : Res (Option D) := match asg t d ρ0 with
  | none => .bad
  | some ρ => (ifs F ρ μ).nox.bind fun b μ1 => match b with
    | true => (elt F ρ μ1).nox.bind fun v μ2 => match v.frz μ2 with
      | some (x, μ3) => .ok (some x) μ3
      | none => .bad
    | false => .ok none μ1
def lcLoop (s : Src) (step : D → Sto → Res (Option D)) : Nat → Nat → Sto → Res (List D)
  | 0, _, _ => .bad
  | n + 1, i, μ => match s.at μ with
    | none => .bad
    | some ds => match ds[i]? with
      | none => .ok [] μ
      | some d => if i < LIM then (step d μ).bind fun o μ1 => (lcLoop s step n (i + 1) μ1).bind fun r μ2 => match o with
        | some x => .ok (x :: r) μ2
        | none => .ok r μ2
        else .bad
def Src.len (s : Src) (μ : Sto) : Nat := match s.at μ with
  | some ds => ds.length
  | none => 0
def eLc (it : SI) (t : Tgt) (ifs : SB) (elt : SE) (own : List Nat) : SE := fun F ρ μ => (it F ρ μ).bind fun s μ1 =>
  (lcLoop s (lcStep F t ifs elt (wipeE ρ own)) (s.len μ1 + 1) 0 μ1).bind fun ds μ2 => if ds.length ≤ LIM then .ok (.new (.lst ds)) μ2 else .bad

section
variable {K : PySem.W.Frag} {Acc : Addr → Prop} {ι : List Addr} {μ : Sto} {H : Hp}
theorem Sim.less {Acc' : Addr → Prop} (S : Sim K Acc' μ ι H) (h : ∀ a, Acc a → Acc' a) : Sim K Acc μ ι H := by
  refine ⟨S.len, S.nd, fun a ha => S.acc a (h a ha), fun k c e => ?_⟩
  obtain ⟨a, e1, r⟩ := S.cell k c e
  exact ⟨a, e1, r.mv (fun a o e n => ⟨e, fun z => n (z.imp id (h a))⟩) fun _ e => e⟩
theorem Stp.less {Acc' : Addr → Prop} {ι' : List Addr} {μ' : Sto} {H' : Hp} (t : Stp K Acc' ι μ H ι' μ' H') (h : ∀ a, Acc a → Acc' a) : Stp K Acc ι μ H ι' μ' H' := ⟨t.sim.less h, t.pre, t.keep, t.trk, t.liv⟩
/-- the touched one is written -/
theorem Sim.wr (S : Sim K Acc μ ι H) {p : Addr} (hp : Acc p) (o : HO) : Sim K Acc μ ι (upd H p o) ∧ Mv (Liv Acc μ ι) H (Liv Acc μ ι) (upd H p o) := by
  have m : Mv (Liv Acc μ ι) H (Liv Acc μ ι) (upd H p o) := fun a u e l => ⟨by
    have ne : a ≠ p := fun z => l (.inr (z ▸ hp))
    rw [upd_ne ne]; exact e, l⟩
  refine ⟨⟨S.len, S.nd, fun a h => ⟨(S.acc a h).1, ?_⟩, fun k c e => ?_⟩, m⟩
  · by_cases e : a = p
    · subst e; rw [upd_same]; simp
    · rw [upd_ne e]; exact (S.acc a h).2
  · obtain ⟨a, e1, r⟩ := S.cell k c e
    refine ⟨a, e1, r.mv m fun u hu => ?_⟩
    have ne : a ≠ p := fun z => (S.acc p hp).1 (z ▸ List.mem_of_getElem? e1)
    rw [upd_ne ne]; exact hu
end
abbrev W0 : WX := fun _ _ _ _ => False
section
variable {K : PySem.W.Frag} {XC : Nat → Addr} {F : Fns} {W : WX} {Acc : Addr → Prop} {ι : List Addr} {μ : Sto} {H : Hp} {σ : L2.St}
theorem SvR.mvM {L L' : Addr → Prop} {H H' : Hp} {s : SV} {v : V} (m : Mv L H L' H') (h : SvR K L ι H s v) : SvR K L' ι H' s v := by
  cases s with
  | dat d => exact Rep.mv m _ _ h
  | cel k => exact h
theorem EnvR.mvM {L L' : Addr → Prop} {H H' : Hp} {ρ : Env} (m : Mv L H L' H') (E : EnvR K L ι H ρ σ) : EnvR K L' ι H' ρ σ := ⟨E.1, fun i s e => let ⟨v, e1, r⟩ := E.2 i s e; ⟨v, e1, r.mvM m⟩⟩
theorem Mv.trans {L L1 L2 : Addr → Prop} {H H1 H2 : Hp} (a : Mv L H L1 H1) (b : Mv L1 H1 L2 H2) : Mv L H L2 H2 := fun x o h n => let ⟨h1, n1⟩ := a x o h n; b x o h1 n1
/-- an inner run, of which no exception comes -/
theorem rd.inner {α β γ δ : Type} {Rel : (Addr → Prop) → Sto → List Addr → Hp → Hp → α → β → Prop} {Rel2 : (Addr → Prop) → Sto → List Addr → Hp → Hp → γ → δ → Prop} {Acc' : Addr → Prop} {f : Fns → Env → Sto → Res α} {ρ : Env} {μ0 : Sto} {H0 : Hp} {σ0 : L2.St} {g : α → Sto → Res γ} {Q : δ → Hp → Prop} {P : β → Hp → Prop}
    (S : Sim K Acc' μ ι H) (E : EnvR K (Liv Acc' μ ι) ι H ρ σ) (h : wp Rel2 K XC W Acc ι μ0 H0 σ0 ((f F ρ μ).nox.bind g) Q)
    (k : ∀ a μ' b H', Stp K Acc' ι μ H ι μ' H' → Rel Acc' μ' ι H H' a b → wp Rel2 K XC W Acc ι μ0 H0 σ0 (g a μ') Q → P b H') : rd K XC F W0 Rel f σ H P := by
  refine ⟨Acc', ι, ρ, μ, S, E, ?_⟩
  cases e : f F ρ μ with
  | ok a μ' => rw [e] at h; exact fun b H' t' rl => k a μ' b H' t' rl h
  | exc x μ' => rw [e] at h; exact h.elim
  | bad => rw [e] at h; exact h.elim
theorem lc_read {it : SI} {t : Tgt} {fi : SB} {fe : SE} {vs : List Nat} {Q : VK} (hsl : ∀ i ∈ t.slots, i ∈ vs) (h : rdE K XC F W (eLc it t fi fe vs) σ H Q) : tLc (rdI K XC F W it) (gT K t) (rdB K XC F W0 fi) (rdE K XC F W0 fe) vs σ H Q := by
  obtain ⟨Acc, ι, ρ, μ, S, E, h⟩ := h
  refine ⟨Acc, ι, ρ, μ, S, E, ?_⟩
  unfold eLc at h
  cases er : it F ρ μ with
  | bad => rw [er] at h; exact h
  | exc x μ1 => rw [er] at h; exact h
  | ok s μ1 =>
    rw [er] at h
    simp only [Res.bind] at h
    intro J H1 t1 jr Dl hD
    have S1 := t1.sim.more hD (.lst [])
    have m1 : Mv (Liv Acc μ1 ι) H1 (Liv (fun a => Acc a ∨ a = Dl) μ1 ι) (upd H1 Dl (.lst [])) := fun a u e l => by
      refine ⟨by rw [upd_ne (ne_of_none e hD)]; exact e, fun z => ?_⟩
      rcases z with z | z | z
      · exact l (.inl z)
      · exact l (.inr z)
      · subst z; rw [hD] at e; cases e
    have E1 : EnvR K (Liv Acc μ1 ι) ι H1 ρ σ := E.mv t1 S
    refine ⟨fun i m Hc => ∃ (μi : Sto) (accD : List D) (accV : List V), Stp K Acc ι μ H ι μi Hc ∧ Sim K (fun a => Acc a ∨ a = Dl) μi ι Hc ∧ Mv (Liv Acc μ1 ι) H1 (Liv (fun a => Acc a ∨ a = Dl) μi ι) Hc ∧ Hc Dl = some (.lst accV) ∧ accD.length ≤ i ∧
      Reps K (Liv (fun a => Acc a ∨ a = Dl) μi ι) Hc accD accV ∧ wp (relE K) K XC W Acc ι μ H σ ((lcLoop s (lcStep F t fi fe (wipeE ρ vs)) m i μi).bind fun ds μ2 => if (accD ++ ds).length ≤ LIM then .ok (.new (.lst (accD ++ ds))) μ2 else .bad) Q,
      ⟨s.len μ1 + 1, μ1, [], [], t1.trans (t1.sim.up hD _), S1, m1, upd_same, Nat.le_refl _, Reps.nil, h⟩, ?_⟩
    rintro i m Hc ⟨μi, accD, accV, tc, Sc, mc, hDl, hlen, racc, hw⟩
    cases m with
    | zero => exact hw.elim
    | succ m =>
      unfold lcLoop at hw
      cases ea : s.at μi with
      | none => rw [ea] at hw; exact hw.elim
      | some ds =>
        rw [ea] at hw
        simp only at hw
        have j := jr (fun a => Acc a ∨ a = Dl) ι μi Hc Sc mc (fun k a e => e) ds ea i
        cases ei : ds[i]? with
        | none =>
          rw [ei] at hw
          have hl : ds.length ≤ i := List.getElem?_eq_none_iff.mp ei
          refine .inl ⟨j.2 hl, ?_⟩
          simp only [Res.bind, List.append_nil] at hw
          by_cases hz : accD.length ≤ LIM
          · rw [if_pos hz] at hw
            refine hw (.ref Dl) Hc tc ⟨⟨Dl, rfl, t1.back hD, accV, hDl, ?_⟩, fun q e => by cases e; exact ⟨Sc, accV, hDl, racc⟩⟩
            exact Reps.mv (fun a o e n => ⟨e, fun z => n (z.imp id .inl)⟩) _ _ racc
          · rw [if_neg hz] at hw; exact hw.elim
        | some d =>
          rw [ei] at hw
          simp only at hw
          by_cases hLi : i < LIM
          case neg => rw [if_neg hLi] at hw; exact hw.elim
          rw [if_pos hLi] at hw
          obtain ⟨jg, jy⟩ := j.1 d ei
          refine .inr ⟨jg, fun Hn => ∃ (μn : Sto) (accD' : List D) (accV' : List V), Stp K Acc ι μ H ι μn Hn ∧ Sim K (fun a => Acc a ∨ a = Dl) μn ι Hn ∧ Mv (Liv Acc μ1 ι) H1 (Liv (fun a => Acc a ∨ a = Dl) μn ι) Hn ∧ Hn Dl = some (.lst accV') ∧ accD'.length ≤ i + 1 ∧
            Reps K (Liv (fun a => Acc a ∨ a = Dl) μn ι) Hn accD' accV' ∧ wp (relE K) K XC W Acc ι μ H σ ((lcLoop s (lcStep F t fi fe (wipeE ρ vs)) m (i + 1) μn).bind fun ds μ2 => if (accD' ++ ds).length ≤ LIM then .ok (.new (.lst (accD' ++ ds))) μ2 else .bad) Q,
            fun H' hn => ⟨m, Nat.lt_succ_self m, hn⟩, fun x Hy hy => ?_⟩
          obtain ⟨ty, ry⟩ := jy x Hy hy
          have my := ty.mv Sc
          have mcy := mc.trans my
          unfold lcStep at hw
          cases easg : asg t d (wipeE ρ vs) with
          | none => rw [easg] at hw; exact hw.elim
          | some ρ2 =>
            rw [easg] at hw
            simp only at hw
            refine gT_ok t d x (wipeE ρ vs) ρ2 (wipe σ vs) easg ry ((E1.wiped vs).mvM mcy) fun σ2 E2 w2 => ⟨?_, ?_⟩
            · rw [w2 vs hsl]
              have ww : ∀ (us : List Nat), (∀ i ∈ us, i ∈ vs) → wipe (wipe σ vs) us = wipe σ vs := by
                intro us
                induction us with
                | nil => intro _; rfl
                | cons u us ih =>
                  intro hu
                  show (wipe (wipe σ vs) us).set u none = _
                  rw [ih fun i hi => hu i (List.mem_cons_of_mem _ hi)]
                  have hm := hu u List.mem_cons_self
                  have : ∀ (xs : List Nat), u ∈ xs → (wipe σ xs).set u none = wipe σ xs := by
                    intro xs
                    induction xs with
                    | nil => intro h; exact absurd h (by simp)
                    | cons y ys ihy =>
                      intro h
                      show ((wipe σ ys).set y none).set u none = (wipe σ ys).set y none
                      by_cases e : y = u
                      · subst e; rw [List.set_set]
                      · rw [List.set_comm _ _ e, ihy (by rcases List.mem_cons.mp h with z | z; exact absurd z.symm e; exact z)]
                  exact this vs hm
              exact ww vs fun _ h => h
            · -- the tests
              have hw2 : wp (relE K) K XC W Acc ι μ H σ ((fi F ρ2 μi).nox.bind fun b μa => (match b with
                  | true => (fe F ρ2 μa).nox.bind fun v μ2 => match v.frz μ2 with
                    | some (x, μ3) => .ok (some x) μ3
                    | none => .bad
                  | false => .ok none μa : Res (Option D)).bind fun o μb => (lcLoop s (lcStep F t fi fe (wipeE ρ vs)) m (i + 1) μb).bind fun r μ2 => (match o with
                    | some x => .ok (x :: r) μ2
                    | none => .ok r μ2 : Res (List D)).bind fun ds μ2 => if (accD ++ ds).length ≤ LIM then .ok (.new (.lst (accD ++ ds))) μ2 else .bad) Q := by
                have bb : ∀ {α β γ : Type} (r : Res α) (f : α → Sto → Res β) (g : β → Sto → Res γ), (r.bind f).bind g = r.bind fun a μ => (f a μ).bind g := fun r f g => by cases r <;> rfl
                rw [bb, bb] at hw
                simp only [bb] at hw ⊢
                exact hw
              refine rd.inner ty.sim E2 hw2 fun b μa b' Ha ta ra ha => ?_
              have eb : b' = b := ra
              subst eb
              have tya := ty.trans ta
              have DL : ∀ {μx : Sto} {Hx : Hp}, Stp K (fun a => Acc a ∨ a = Dl) ι μi Hc ι μx Hx → Hx Dl = some (.lst accV) := fun {μx Hx} tx => tx.keep Dl _ hDl fun z => (Sc.acc Dl (.inr rfl)).1 z.mem
              cases b' with
              | false =>
                refine ⟨μa, accD, accV, tc.trans (tya.less fun a h => .inl h), tya.sim, mc.trans (tya.mv Sc), DL tya, Nat.le_succ_of_le hlen, Reps.mv (tya.mv Sc) _ _ racc, ?_⟩
                simp only [Res.bind] at ha ⊢
                cases el : lcLoop s (lcStep F t fi fe (wipeE ρ vs)) m (i + 1) μa with
                | bad => rw [el] at ha; exact ha
                | exc x μb => rw [el] at ha; exact ha
                | ok r μb => rw [el] at ha; exact ha
              | true =>
                simp only at ha
                have bb : ∀ {α β γ : Type} (r : Res α) (f : α → Sto → Res β) (g : β → Sto → Res γ), (r.bind f).bind g = r.bind fun a μ => (f a μ).bind g := fun r f g => by cases r <;> rfl
                rw [bb] at ha
                simp only [if_true]
                refine rd.inner ta.sim (E2.mv ta ty.sim) ha fun v μb y Hb tb rb hb => ?_
                have tyb := tya.trans tb
                cases ef : v.frz μb with
                | none => rw [ef] at hb; exact hb.elim
                | some p =>
                  obtain ⟨xd, μc⟩ := p
                  rw [ef] at hb
                  simp only [Res.bind] at hb
                  obtain ⟨tf, rx⟩ := frz_ok tb.sim (fun a ha => ta.sim.trk ha) ta.sim.accT rb.1 ef
                  have tyf := tyb.trans tf
                  refine ⟨accV, DL tyb, ?_, ?_⟩
                  · have := racc.len
                    rw [this]
                    have h2 : (LIM : Nat) ≤ sizeLine := by decide
                    omega
                  · obtain ⟨Sw, mw⟩ := tyf.sim.wr (.inr rfl : (fun a => Acc a ∨ a = Dl) Dl) (.lst (accV ++ [y]))
                    refine ⟨μc, accD ++ [xd], accV ++ [y], ?_, Sw, (mc.trans (tyf.mv Sc)).trans mw, upd_same, by rw [List.length_append]; exact Nat.succ_le_succ hlen, (Reps.mv ((tyf.mv Sc).trans mw) _ _ racc).app (Reps.cons (Rep.mv mw _ _ rx) Reps.nil), ?_⟩
                    · have tl := tc.trans (tyf.less (Acc := Acc) fun a h => .inl h)
                      refine ⟨Sw.less fun a h => .inl h, tl.pre, fun a o e n => ?_, fun a n => ?_, fun a z => tl.liv a z⟩
                      · have ne : a ≠ Dl := fun z => by subst z; rw [t1.back hD] at e; cases e
                        rw [upd_ne ne]
                        exact tl.keep a o e n
                      · by_cases e : a = Dl
                        · subst e; rw [upd_same]; simp
                        · rw [upd_ne e]; exact tl.trk a n
                    · cases el : lcLoop s (lcStep F t fi fe (wipeE ρ vs)) m (i + 1) μc with
                      | bad => rw [el] at hb; exact hb
                      | exc x μb => rw [el] at hb; exact hb
                      | ok r μd =>
                        rw [el] at hb
                        simp only [Res.bind, List.append_assoc, List.singleton_append] at hb ⊢
                        exact hb
end
end VM
/-! Statements. -/
namespace VM
open PySem L2 PyProof.Rows

def wpS (K : PySem.W.Frag) (XC : Nat → Addr) (W : WX) (Acc : Addr → Prop) (ι : List Addr) (μ : Sto) (H : Hp) (r : Res SO) (D : Ends) : Prop := match r with
  | .ok (.nx ρ') μ' => ∀ ι' H' σ', Stp K Acc ι μ H ι' μ' H' → EnvR K (Liv Acc μ' ι') ι' H' ρ' σ' → D.nx σ' H'
  | .ok (.bk ρ') μ' => ∀ ι' H' σ', Stp K Acc ι μ H ι' μ' H' → EnvR K (Liv Acc μ' ι') ι' H' ρ' σ' → D.bk σ' H'
  | .ok (.ct ρ') μ' => ∀ ι' H' σ', Stp K Acc ι μ H ι' μ' H' → EnvR K (Liv Acc μ' ι') ι' H' ρ' σ' → D.ct σ' H'
  | .ok (.rt v) μ' => ∀ ι' H' u, Stp K Acc ι μ H ι' μ' H' → EvR K (Liv Acc μ' ι') ι' H H' v u → OwnR K Acc μ' ι' H' v u → D.rt u H'
  | .exc x μ' => ∀ ι' H' c d σ', Stp K Acc ι μ H ι' μ' H' → ExcR K XC (Liv Acc μ' ι') H H' x c d → W c d σ' H'
  | .bad => False
def rdS (K : PySem.W.Frag) (XC : Nat → Addr) (F : Fns) (W : WX) (f : SS) : TS := fun D σ H =>
  ∃ (Acc : Addr → Prop) (ι : List Addr) (ρ : Env) (μ : Sto), Sim K Acc μ ι H ∧ EnvR K (Liv Acc μ ι) ι H ρ σ ∧ wpS K XC W Acc ι μ H (f F ρ μ) D

section
variable {K : PySem.W.Frag} {XC : Nat → Addr} {F : Fns} {W : WX} {Acc : Addr → Prop} {ι ι1 ι2 : List Addr} {μ μ1 μ2 : Sto} {H H0 H1 H2 : Hp} {σ : L2.St} {D : Ends}
theorem wpS.shift {r : Res SO} (t : Stp K Acc ι μ H ι1 μ1 H1) (h : wpS K XC W Acc ι μ H r D) : wpS K XC W Acc ι1 μ1 H1 r D := by
  cases r with
  | bad => exact h
  | exc x μ' => exact fun ι' H' c d σ' t' e => h ι' H' c d σ' (t.trans t') (e.back t)
  | ok o μ' =>
    cases o with
    | nx ρ' => exact fun ι' H' σ' t' e => h ι' H' σ' (t.trans t') e
    | bk ρ' => exact fun ι' H' σ' t' e => h ι' H' σ' (t.trans t') e
    | ct ρ' => exact fun ι' H' σ' t' e => h ι' H' σ' (t.trans t') e
    | rt v => exact fun ι' H' u t' e o => h ι' H' u (t.trans t') (EvR.back t e) o
theorem rdS.last {f : SS} {ρ : Env} (t : Stp K Acc ι μ H ι1 μ1 H1) (E : EnvR K (Liv Acc μ1 ι1) ι1 H1 ρ σ) (h : wpS K XC W Acc ι μ H (f F ρ μ1) D) : rdS K XC F W f D σ H1 := ⟨Acc, ι1, ρ, μ1, t.sim, E, wpS.shift t h⟩
/-- an expression at a statement's head -/
theorem rd.stm {α β : Type} {Rel : (Addr → Prop) → Sto → List Addr → Hp → Hp → α → β → Prop} {f : Fns → Env → Sto → Res α} {ρ : Env} {g : α → Sto → Res SO} {P : β → Hp → Prop}
    (t : Stp K Acc ι μ H ι1 μ1 H1) (E : EnvR K (Liv Acc μ1 ι1) ι1 H1 ρ σ) (h : wpS K XC W Acc ι μ H ((f F ρ μ1).bind g) D)
    (k : ∀ a μ' b H', Stp K Acc ι1 μ1 H1 ι1 μ' H' → Rel Acc μ' ι1 H1 H' a b → wpS K XC W Acc ι μ H (g a μ') D → P b H') : rd K XC F W Rel f σ H1 P := by
  refine ⟨Acc, ι1, ρ, μ1, t.sim, E, ?_⟩
  cases e : f F ρ μ1 with
  | ok a μ' => rw [e] at h; exact fun b H' t' rl => k a μ' b H' t' rl h
  | exc x μ' => rw [e] at h; exact fun c d H' t' rl => h ι1 H' c d σ (t.trans t') (rl.back t)
  | bad => rw [e] at h; exact h
/-- a new object becomes a cell -/
theorem Sim.grow (S0 : Sim K Acc μ ι H) (t : Stp K Acc ι μ H ι1 μ1 H1) {c : CV} {p : Addr} (n : H p = none) (ow : Sim K (fun a => Acc a ∨ a = p) μ1 ι1 H1) (r : CvR K (Liv (fun a => Acc a ∨ a = p) μ1 ι1) H1 c p) : Stp K Acc ι μ H (ι1 ++ [p]) (μ1 ++ [⟨true, c⟩]) H1 := by
  have pn : p ∉ ι1 := (ow.acc p (.inr rfl)).1
  have hl : ι1.length = μ1.length := t.sim.len
  have cl : ∀ a, Cel (μ1 ++ [⟨true, c⟩]) (ι1 ++ [p]) a → Cel μ1 ι1 a ∨ a = p := fun a ⟨k, c', e, l, h⟩ => by
    by_cases hk : k < μ1.length
    · rw [List.getElem?_append_left hk] at e
      rw [List.getElem?_append_left (by omega)] at h
      exact .inl ⟨k, c', e, l, h⟩
    · by_cases hk2 : k = μ1.length
      · subst hk2
        rw [← hl, List.getElem?_append_right (Nat.le_refl _), Nat.sub_self] at h
        exact .inr (by simpa using h.symm)
      · rw [List.getElem?_eq_none (by rw [List.length_append, List.length_singleton]; omega)] at e
        cases e
  have m : Mv (Liv (fun a => Acc a ∨ a = p) μ1 ι1) H1 (Liv Acc (μ1 ++ [⟨true, c⟩]) (ι1 ++ [p])) H1 := fun a o e nl => ⟨e, fun z => nl (by
    rcases z with z | z
    · rcases cl a z with z | z
      · exact .inl z
      · exact .inr (.inr z)
    · exact .inr (.inl z))⟩
  refine ⟨⟨by rw [List.length_append, List.length_append, hl] <;> rfl, ?_, fun a ha => ⟨fun z => ?_, (t.sim.acc a ha).2⟩, fun k c' e => ?_⟩, ?_, t.keep, t.trk, fun a z => ?_⟩
  · exact List.nodup_append.mpr ⟨t.sim.nd, by simp, fun a ha b hb e => pn (by rw [List.mem_singleton.mp hb] at e; rw [← e]; exact ha)⟩
  · rcases List.mem_append.mp z with z | z
    · exact (t.sim.acc a ha).1 z
    · have e : a = p := List.mem_singleton.mp z
      subst e
      exact (S0.acc a ha).2 n
  · by_cases hk : k < μ1.length
    · rw [List.getElem?_append_left hk] at e
      obtain ⟨a, e1, r1⟩ := ow.cell k c' e
      exact ⟨a, by rw [List.getElem?_append_left (by omega)]; exact e1, r1.mv m fun _ e => e⟩
    · by_cases hk2 : k = μ1.length
      · subst hk2
        rw [List.getElem?_append_right (Nat.le_refl _), Nat.sub_self] at e
        have e' : c' = ⟨true, c⟩ := by simpa using e.symm
        subst e'
        refine ⟨p, by rw [← hl, List.getElem?_append_right (Nat.le_refl _), Nat.sub_self]; rfl, ?_⟩
        exact r.mv m fun _ e => e
      · rw [List.getElem?_eq_none (by rw [List.length_append, List.length_singleton]; omega)] at e
        cases e
  · obtain ⟨ex, e, ne⟩ := t.pre
    refine ⟨ex ++ [p], by rw [e, List.append_assoc], fun a ha => ?_⟩
    rcases List.mem_append.mp ha with ha | ha
    · exact ne a ha
    · rw [List.mem_singleton.mp ha]; exact n
  · rcases cl a z with z | z
    · exact t.liv a z
    · subst z; exact .inr n
end

/-! ### 2. what a slot gets -/
/-- a value is bound: a new object becomes a cell -/
def EV.bnd (v : EV) (μ : Sto) : SV × Sto := match v with
  | .dat d => (.dat d, μ)
  | .cel k => (.cel k, μ)
  | .new c => (.cel μ.length, μ ++ [⟨true, c⟩])
section
variable {K : PySem.W.Frag} {XC : Nat → Addr} {F : Fns} {W : WX} {Acc : Addr → Prop} {ι ι1 ι2 : List Addr} {μ μ1 μ2 : Sto} {H H0 H1 H2 : Hp} {σ : L2.St} {D : Ends}
theorem bnd_ok {v : EV} {x : V} (S : Sim K Acc μ ι H) (t : Stp K Acc ι μ H ι μ1 H1) (r : EvR K (Liv Acc μ1 ι) ι H H1 v x) (o : OwnR K Acc μ1 ι H1 v x) :
    ∃ ι', Stp K Acc ι μ H ι' (v.bnd μ1).2 H1 ∧ SvR K (Liv Acc (v.bnd μ1).2 ι') ι' H1 (v.bnd μ1).1 x := by
  cases v with
  | dat d => exact ⟨ι, t, r⟩
  | cel k => exact ⟨ι, t, r⟩
  | new c =>
    obtain ⟨p, e, n, _⟩ := r
    subst e
    obtain ⟨ow, rr⟩ := o p rfl
    refine ⟨ι ++ [p], Sim.grow S t n ow rr, p, ?_, rfl⟩
    show (ι ++ [p])[μ1.length]? = some p
    rw [← t.sim.len, List.getElem?_append_right (Nat.le_refl _), Nat.sub_self]; rfl

/-! ### 3. statements -/
def sSeq (a b : SS) : SS := fun F ρ μ => match a F ρ μ with
  | .ok (.nx ρ1) μ1 => b F ρ1 μ1
  | r => r
def sPass : SS := fun _ ρ μ => .ok (.nx ρ) μ
def sBrk : SS := fun _ ρ μ => .ok (.bk ρ) μ
def sCnt : SS := fun _ ρ μ => .ok (.ct ρ) μ
def sNever : SS := fun _ _ _ => .bad
def sDrop (e : SE) : SS := fun F ρ μ => (e F ρ μ).bind fun _ μ1 => .ok (.nx ρ) μ1
def sRet (e : SE) : SS := fun F ρ μ => (e F ρ μ).bind fun v μ1 => .ok (.rt v) μ1
def sRetN : SS := fun _ _ μ => .ok (.rt (.dat .non)) μ
def sIf (c : SB) (a b : SS) : SS := fun F ρ μ => (c F ρ μ).bind fun t μ1 => match t with
  | true => a F ρ μ1
  | false => b F ρ μ1
def sSet (i : Nat) (e : SE) : SS := fun F ρ μ => (e F ρ μ).bind fun v μ1 => .ok (.nx (ρ.set i (some (v.bnd μ1).1))) (v.bnd μ1).2
def sPar (i j : Nat) (a b : SE) : SS := fun F ρ μ => (a F ρ μ).bind fun v μ1 => (b F ρ (v.bnd μ1).2).bind fun w μ2 =>
  .ok (.nx ((ρ.set i (some (v.bnd μ1).1)).set j (some (w.bnd μ2).1))) (w.bnd μ2).2
def sPar3 (i j l : Nat) (a b c : SE) : SS := fun F ρ μ => (a F ρ μ).bind fun v μ1 => (b F ρ (v.bnd μ1).2).bind fun w μ2 => (c F ρ (w.bnd μ2).2).bind fun u μ3 =>
  .ok (.nx (((ρ.set i (some (v.bnd μ1).1)).set j (some (w.bnd μ2).1)).set l (some (u.bnd μ3).1))) (u.bnd μ3).2
def whL (c : Env → Sto → Res Bool) (b : Env → Sto → Res SO) : Nat → Env → Sto → Res SO
  | 0, _, _ => .bad
  | n + 1, ρ, μ => (c ρ μ).bind fun t μ1 => match t with
    | true => match b ρ μ1 with
      | .ok (.nx ρ1) μ2 => whL c b n ρ1 μ2
      | .ok (.ct ρ1) μ2 => whL c b n ρ1 μ2
      | .ok (.bk ρ1) μ2 => .ok (.nx ρ1) μ2
      | r => r
    | false => .ok (.nx ρ) μ1
def sWhile (c : SB) (b : SS) : SS := fun F ρ μ => whL (c F) (b F) LIM ρ μ
end
section
variable {X : Cx} {XC : Nat → Addr} {F : Fns} {W : WX} {st : Stmt} {rest : List Stmt} {pos : Pos}
theorem wpS.k {K : PySem.W.Frag} {Acc : Addr → Prop} {ι ι1 : List Addr} {μ μ1 : Sto} {H H1 : Hp} {D : Ends} {f : SS} {ρ : Env} {σ : L2.St} (t : Stp K Acc ι μ H ι1 μ1 H1) (E : EnvR K (Liv Acc μ1 ι1) ι1 H1 ρ σ) (h : wpS K XC W Acc ι μ H (f F ρ μ1) D) : rdS K XC F W f D σ H1 := rdS.last t E h
theorem s_seq {a b : SS} (h1 : PS X st (rdS X.K XC F W a)) (h2 : PSs X rest (rdS X.K XC F W b)) : PSs X (st :: rest) (rdS X.K XC F W (sSeq a b)) :=
  PSsimp (pss_cons h1 h2) fun D σ H ⟨Acc, ι, ρ, μ, S, E, h⟩ => by
    refine ⟨Acc, ι, ρ, μ, S, E, ?_⟩
    unfold sSeq at h
    cases e : a F ρ μ with
    | bad => rw [e] at h; exact h
    | exc x μ1 => rw [e] at h; exact h
    | ok o μ1 =>
      rw [e] at h
      cases o with
      | nx ρ1 => exact fun ι' H' σ' t E' => wpS.k t E' h
      | rt v => exact h
      | bk ρ1 => exact h
      | ct ρ1 => exact h
theorem s_one {a : SS} (h1 : PS X st (rdS X.K XC F W a)) : PSs X [st] (rdS X.K XC F W a) := pss_one h1
theorem s_nil : PSs X [] (rdS X.K XC F W sPass) := PSsimp pss_nil fun D σ H ⟨Acc, ι, ρ, μ, S, E, h⟩ => h ι H σ (.refl S) E
theorem s_pass : PS X (.Pass pos) (rdS X.K XC F W sPass) := PSimp ps_pass fun D σ H ⟨Acc, ι, ρ, μ, S, E, h⟩ => h ι H σ (.refl S) E
theorem s_brk : PS X (.Break pos) (rdS X.K XC F W sBrk) := PSimp ps_break fun D σ H ⟨Acc, ι, ρ, μ, S, E, h⟩ => h ι H σ (.refl S) E
theorem s_cnt : PS X (.Continue pos) (rdS X.K XC F W sCnt) := PSimp ps_continue fun D σ H ⟨Acc, ι, ρ, μ, S, E, h⟩ => h ι H σ (.refl S) E
theorem s_never : PS X st (rdS X.K XC F W sNever) := PSimp ps_never fun D σ H ⟨Acc, ι, ρ, μ, S, E, h⟩ => h
theorem ss_never {sts : List Stmt} : PSs X sts (rdS X.K XC F W sNever) := PSsimp pss_never fun D σ H ⟨Acc, ι, ρ, μ, S, E, h⟩ => h
theorem s_doc {x j pos pos'} : PS X (.Expr (.Constant (.str x) j pos) pos') (rdS X.K XC F W sPass) := PSimp ps_doc fun D σ H ⟨Acc, ι, ρ, μ, S, E, h⟩ => h ι H σ (.refl S) E
theorem s_drop {e : Expr} {fe : SE} (he : PE X e (rdE X.K XC F W fe)) (hs : swapsWith e none pos.line X.env = pure false := by rfl) : PS X (.Expr e pos) (rdS X.K XC F W (sDrop fe)) :=
  PSimp (ps_expr he hs) fun D σ H ⟨Acc, ι, ρ, μ, S, E, h⟩ => by
    refine rd.stm (Stp.refl S) E h fun v μ1 b H1 t1 r1 h1 => ?_
    exact h1 ι H1 σ t1 (E.mv t1 S)
theorem s_ret {e : Expr} {fe : SE} (he : PE X e (rdE X.K XC F W fe)) : PS X (.Return (some e) pos) (rdS X.K XC F W (sRet fe)) :=
  PSimp (ps_ret he) fun D σ H ⟨Acc, ι, ρ, μ, S, E, h⟩ => by
    refine rd.stm (Stp.refl S) E h fun v μ1 b H1 t1 r1 h1 => ?_
    exact h1 ι H1 b t1 r1.1 r1.2
theorem s_retN : PS X (.Return none pos) (rdS X.K XC F W sRetN) := PSimp ps_retN fun D σ H ⟨Acc, ι, ρ, μ, S, E, h⟩ => h ι H V.non (.refl S) rfl trivial
theorem s_if {c : Expr} {a b : List Stmt} {fc : SB} {fa fb : SS} (hc : PT X c (rdB X.K XC F W fc)) (ha : PSs X a (rdS X.K XC F W fa)) (hb : PSs X b (rdS X.K XC F W fb)) : PS X (.If c a b pos) (rdS X.K XC F W (sIf fc fa fb)) :=
  PSimp (ps_if hc ha hb) fun D σ H ⟨Acc, ι, ρ, μ, S, E, h⟩ => by
    refine rd.stm (Stp.refl S) E h fun v μ1 b H1 t1 r1 h1 => ?_
    have r1 : b = v := r1
    subst r1
    cases b with
    | true => rw [if_pos rfl]; exact wpS.k t1 (E.mv t1 S) h1
    | false => rw [if_neg Bool.false_ne_true]; exact wpS.k t1 (E.mv t1 S) h1
theorem s_set {i : Nat} {x : Str} {e : Expr} {fe : SE} {pos' : Pos} (hN : X.N.Nodup) (hi : X.N[i]? = some x) (hx : Loc X.env.scope x) (he : PE X e (rdE X.K XC F W fe)) (hs : swapsWith e (some (.Name x pos')) pos.line X.env = pure false := by rfl) (hf : X.fn x = true ∨ X.env.scope.names.lookup x = some .local := by first | exact .inl rfl | exact .inr rfl | assumption) :
    PS X (.Assign [.Name x pos'] e pos) (rdS X.K XC F W (sSet i fe)) :=
  PSimp (ps_set hN hi hx he hs hf) fun D σ H ⟨Acc, ι, ρ, μ, S, E, h⟩ => by
    refine rd.stm (Stp.refl S) E h fun v μ1 b H1 t1 r1 h1 => ?_
    obtain ⟨ι', t', r'⟩ := bnd_ok S t1 r1.1 r1.2
    exact h1 ι' H1 _ t' ((E.mv t' S).set r')
theorem s_par {i j : Nat} {x y : Str} {a b : Expr} {fa fb : SE} {px py pt : Pos} {kt k2 pt2} (hc : X.calm = true) (hN : X.N.Nodup) (hi : X.N[i]? = some x) (hj : X.N[j]? = some y) (hij : i ≠ j)
    (hx : X.env.scope.names.lookup x = some .local) (hy : X.env.scope.names.lookup y = some .local) (ha : PE X a (rdE X.K XC F W fa)) (hb : PE X b (rdE X.K XC F W fb))
    (hw : swappedStores [.Tuple [.Name x px, .Name y py] kt pt] (.Tuple [a, b] k2 pt2) X.env = pure (some [x, y]))
    (h1 : starEach [a, b] X.env = (false, eval a X.env) :: starEach [b] X.env := by rfl) (h2 : starEach [b] X.env = (false, eval b X.env) :: starEach [] X.env := by rfl)
    (hs : swapsWithSole [.Tuple [.Name x px, .Name y py] kt pt] (.Tuple [a, b] k2 pt2) pos.line X.env = pure false := by rfl) :
    PS X (.Assign [.Tuple [.Name x px, .Name y py] kt pt] (.Tuple [a, b] k2 pt2) pos) (rdS X.K XC F W (sPar i j fa fb)) :=
  PSimp (ps_par hc hN hi hj hij hx hy (pa_cons ha (pa_cons hb pa_nil h2) h1) hw hs) fun D σ H ⟨Acc, ι, ρ, μ, S, E, h⟩ => by
    refine rd.stm (Stp.refl S) E h fun v μ1 c1 H1 t1 r1 h1 => ?_
    obtain ⟨ι1, t1', s1⟩ := bnd_ok S t1 r1.1 r1.2
    refine rd.stm t1' (E.mv t1' S) h1 fun w μ2 c2 H2 t2 r2 h2 => ?_
    obtain ⟨ι2, t2', s2⟩ := bnd_ok t1'.sim t2 r2.1 r2.2
    refine ⟨c1, c2, rfl, h2 ι2 H2 _ (t1'.trans t2') ?_⟩
    exact ((E.mv (t1'.trans t2') S).set (s1.mv t2' t1'.sim)).set s2
theorem s_par3 {i j l : Nat} {x y z : Str} {a b c : Expr} {fa fb fc : SE} {px py pz pt : Pos} {kt k2 pt2} (hc : X.calm = true) (hN : X.N.Nodup) (hi : X.N[i]? = some x) (hj : X.N[j]? = some y) (hl : X.N[l]? = some z) (hij : i ≠ j) (hil : i ≠ l) (hjl : j ≠ l)
    (hx : X.env.scope.names.lookup x = some .local) (hy : X.env.scope.names.lookup y = some .local) (hz : X.env.scope.names.lookup z = some .local) (ha : PE X a (rdE X.K XC F W fa)) (hb : PE X b (rdE X.K XC F W fb)) (hcc : PE X c (rdE X.K XC F W fc))
    (hw : swappedStores [.Tuple [.Name x px, .Name y py, .Name z pz] kt pt] (.Tuple [a, b, c] k2 pt2) X.env = pure (some [x, y, z]))
    (h1 : starEach [a, b, c] X.env = (false, eval a X.env) :: starEach [b, c] X.env := by rfl) (h2 : starEach [b, c] X.env = (false, eval b X.env) :: starEach [c] X.env := by rfl) (h3 : starEach [c] X.env = (false, eval c X.env) :: starEach [] X.env := by rfl)
    (hs : swapsWithSole [.Tuple [.Name x px, .Name y py, .Name z pz] kt pt] (.Tuple [a, b, c] k2 pt2) pos.line X.env = pure false := by rfl) :
    PS X (.Assign [.Tuple [.Name x px, .Name y py, .Name z pz] kt pt] (.Tuple [a, b, c] k2 pt2) pos) (rdS X.K XC F W (sPar3 i j l fa fb fc)) :=
  PSimp (ps_par3 hc hN hi hj hl hij hil hjl hx hy hz (pa_cons ha (pa_cons hb (pa_cons hcc pa_nil h3) h2) h1) hw hs) fun D σ H ⟨Acc, ι, ρ, μ, S, E, h⟩ => by
    refine rd.stm (Stp.refl S) E h fun v μ1 c1 H1 t1 r1 h1 => ?_
    obtain ⟨ι1, t1', s1⟩ := bnd_ok S t1 r1.1 r1.2
    refine rd.stm t1' (E.mv t1' S) h1 fun w μ2 c2 H2 t2 r2 h2 => ?_
    obtain ⟨ι2, t2', s2⟩ := bnd_ok t1'.sim t2 r2.1 r2.2
    have t12 := t1'.trans t2'
    refine rd.stm t12 (E.mv t12 S) h2 fun u μ3 c3 H3 t3 r3 h3 => ?_
    obtain ⟨ι3, t3', s3⟩ := bnd_ok t2'.sim t3 r3.1 r3.2
    refine ⟨c1, c2, c3, rfl, h3 ι3 H3 _ (t12.trans t3') ?_⟩
    exact (((E.mv (t12.trans t3') S).set (s1.mv (t2'.trans t3') t1'.sim)).set (s2.mv t3' t2'.sim)).set s3
theorem s_while {c : Expr} {body : List Stmt} {fc : SB} {fb : SS} (hp : PassesOwn (model X.prog X.w) X.A X.env X.xe) (hc : PT X c (rdB X.K XC F W fc)) (hb : PSs X body (rdS X.K XC F W fb)) : PS X (.While c body [] pos) (rdS X.K XC F W (sWhile fc fb)) :=
  PSimp (ps_while hp hc hb) fun D σ H ⟨Acc, ι, ρ, μ, S, E, h⟩ => by
    refine ⟨fun m σ H => ∃ (Acc : Addr → Prop) (ι : List Addr) (ρ : Env) (μ : Sto), Sim X.K Acc μ ι H ∧ EnvR X.K (Liv Acc μ ι) ι H ρ σ ∧ wpS X.K XC W Acc ι μ H (whL (fc F) (fb F) m ρ μ) D, ⟨LIM, Acc, ι, ρ, μ, S, E, h⟩, ?_⟩
    rintro m σ H ⟨Acc, ι, ρ, μ, S, E, h⟩
    cases m with
    | zero => exact h.elim
    | succ m =>
      unfold whL at h
      refine rd.stm (f := fc) (Stp.refl S) E h fun v μ1 b H1 t1 r1 h1 => ?_
      have r1 : b = v := r1
      subst r1
      cases b with
      | false => rw [if_neg Bool.false_ne_true]; exact h1 ι H1 σ t1 (E.mv t1 S)
      | true =>
        rw [if_pos rfl]
        refine ⟨fun σ' H' => ∃ (Acc : Addr → Prop) (ι : List Addr) (ρ : Env) (μ : Sto), Sim X.K Acc μ ι H' ∧ EnvR X.K (Liv Acc μ ι) ι H' ρ σ' ∧ wpS X.K XC W Acc ι μ H' (whL (fc F) (fb F) m ρ μ) D, fun σ' H' q => ⟨m, Nat.lt_succ_self m, q⟩, ?_⟩
        refine ⟨Acc, ι, ρ, μ1, t1.sim, E.mv t1 S, ?_⟩
        replace h1 := wpS.shift t1 h1
        simp only at h1
        cases e : fb F ρ μ1 with
        | bad => rw [e] at h1; exact h1
        | exc x μ2 => rw [e] at h1; exact h1
        | ok o μ2 =>
          rw [e] at h1
          cases o with
          | rt v => exact h1
          | bk ρ2 => exact fun ι' H' σ' t' E' => h1 ι' H' σ' t' E'
          | nx ρ2 => exact fun ι' H' σ' t' E' => ⟨Acc, ι', ρ2, μ2, t'.sim, E', wpS.shift t' h1⟩
          | ct ρ2 => exact fun ι' H' σ' t' E' => ⟨Acc, ι', ρ2, μ2, t'.sim, E', wpS.shift t' h1⟩
end
end VM
/-! Stores into cells; targets; the for loop; methods of lists and dicts. -/
namespace VM
open PySem L2 PyProof.Rows

/-! ### 1. a live cell is written -/
section
variable {K : PySem.W.Frag} {Acc : Addr → Prop} {ι : List Addr} {μ : Sto} {H : Hp}
theorem Sim.put (S : Sim K Acc μ ι H) {k : Nat} {c : Cell} {a : Addr} {c' : CV} {o : HO} (hc : μ[k]? = some c) (hl : c.live = true) (ha : ι[k]? = some a)
    (r : ∀ H', Mv (Liv Acc μ ι) H (Liv Acc μ ι) H' → H' a = some o → CvR K (Liv Acc μ ι) H' c' a) : Stp K Acc ι μ H ι (μ.set k ⟨true, c'⟩) (upd H a o) := by
  have hk : k < μ.length := (List.getElem?_eq_some_iff.mp hc).1
  have la : Cel μ ι a := ⟨k, c, hc, hl, ha⟩
  have le : ∀ b, Cel (μ.set k ⟨true, c'⟩) ι b ↔ Cel μ ι b := fun b => by
    constructor
    · rintro ⟨j, d, e, l, h⟩
      by_cases hj : k = j
      · subst hj
        exact ⟨k, c, hc, hl, h⟩
      · rw [List.getElem?_set_ne hj] at e
        exact ⟨j, d, e, l, h⟩
    · rintro ⟨j, d, e, l, h⟩
      by_cases hj : k = j
      · subst hj
        exact ⟨k, _, List.getElem?_set_self hk, rfl, h⟩
      · exact ⟨j, d, by rw [List.getElem?_set_ne hj]; exact e, l, h⟩
  have kp : ∀ b u, H b = some u → b ≠ a → upd H a o b = some u := fun b u e n => by rw [upd_ne n]; exact e
  have m : Mv (Liv Acc μ ι) H (Liv Acc μ ι) (upd H a o) := fun b u e n => ⟨kp b u e fun z => n (.inl (z ▸ la)), n⟩
  have m' : Mv (Liv Acc μ ι) (upd H a o) (Liv Acc (μ.set k ⟨true, c'⟩) ι) (upd H a o) := fun b u e n => ⟨e, fun z => n (z.imp (fun z => (le b).mp z) id)⟩
  have tk : ∀ b, H b ≠ none → upd H a o b ≠ none := fun b h => by
    by_cases e : b = a
    · subst e; rw [upd_same]; simp
    · rw [upd_ne e]; exact h
  refine ⟨⟨by rw [List.length_set]; exact S.len, S.nd, fun b h => ⟨(S.acc b h).1, tk b (S.acc b h).2⟩, fun j d e => ?_⟩, ⟨[], by simp, by simp⟩, fun b u e n => kp b u e fun z => n (z ▸ la), tk, fun b h => .inl ((le b).mp h)⟩
  by_cases hj : k = j
  · subst hj
    rw [List.getElem?_set_self hk] at e
    cases e
    exact ⟨a, ha, (r _ m upd_same).mv m' fun _ e => e⟩
  · rw [List.getElem?_set_ne hj] at e
    obtain ⟨b, e1, r1⟩ := S.cell j d e
    refine ⟨b, e1, (r1.mv m fun u hu => kp b u hu ?_).mv m' fun _ e => e⟩
    rintro rfl
    have hi : k < ι.length := (List.getElem?_eq_some_iff.mp ha).1
    exact hj ((List.getElem?_inj hi S.nd).mp (ha.trans e1.symm))
end

/-! ### 2. targets -/
abbrev SG := D → Fns → Env → Sto → Res Env
def wpG (K : PySem.W.Frag) (XC : Nat → Addr) (W : WX) (Acc : Addr → Prop) (ι : List Addr) (μ : Sto) (H : Hp) (r : Res Env) (Q : L2.St → Hp → Prop) : Prop := match r with
  | .ok ρ' μ' => ∀ σ' H', Stp K Acc ι μ H ι μ' H' → EnvR K (Liv Acc μ' ι) ι H' ρ' σ' → Q σ' H'
  | .exc x μ' => ∀ c d σ' H', Stp K Acc ι μ H ι μ' H' → ExcR K XC (Liv Acc μ' ι) H H' x c d → W c d σ' H'
  | .bad => False
def rdG (K : PySem.W.Frag) (XC : Nat → Addr) (F : Fns) (W : WX) (g : SG) : TG := fun v σ H Q =>
  ∃ (Acc : Addr → Prop) (ι : List Addr) (ρ : Env) (μ : Sto) (d : D), Sim K Acc μ ι H ∧ EnvR K (Liv Acc μ ι) ι H ρ σ ∧ Rep K (Liv Acc μ ι) H d v ∧ wpG K XC W Acc ι μ H (g d F ρ μ) Q
def sgs : List SG → List D → Fns → Env → Sto → Res Env
  | [], [], _, ρ, μ => .ok ρ μ
  | g :: gs, d :: ds, F, ρ, μ => (g d F ρ μ).bind fun ρ1 μ1 => sgs gs ds F ρ1 μ1
  | _, _, _, _, _ => .bad
def rdGs (K : PySem.W.Frag) (XC : Nat → Addr) (F : Fns) (W : WX) (gs : List SG) : TGs := fun vs σ H Q =>
  ∃ (Acc : Addr → Prop) (ι : List Addr) (ρ : Env) (μ : Sto) (ds : List D), Sim K Acc μ ι H ∧ EnvR K (Liv Acc μ ι) ι H ρ σ ∧ Reps K (Liv Acc μ ι) H ds vs ∧ wpG K XC W Acc ι μ H (sgs gs ds F ρ μ) Q
def gNm (i : Nat) : SG := fun d _ ρ μ => .ok (ρ.set i (some (.dat d))) μ
def gTp (gs : List SG) : SG := fun d F ρ μ => match d with
  | .tup ds => if ds.length = gs.length then sgs gs ds F ρ μ else .bad
  | _ => .bad
/-- the store of one place -/
def putAt (c : CV) (i d : D) : Option CV := match c, i with
  | .lst ds, .int k => match ixN ds.length k with
    | some j => some (.lst (ds.set j d))
    | none => none
  | .dic ks ds, i => match i.key with
    | some k => if ndK ks && decide (ks.length < LIM) then some (.dic (dput ks ds k d).1 (dput ks ds k d).2) else none
    | none => none
  | _, _ => none
def gSb (o i : SE) : SG := fun d F ρ μ => (o F ρ μ).bind fun v μ1 => (i F ρ μ1).bind fun w μ2 => match v with
  | .cel k => match w.see μ2, μ2[k]? with
    | some iv, some c => match c.live, putAt c.val iv d with
      | true, some c' => .ok ρ (μ2.set k ⟨true, c'⟩)
      | _, _ => .bad
    | _, _ => .bad
  | _ => .bad
def sAsg (e : SE) (g : SG) : SS := fun F ρ μ => (e F ρ μ).bind fun v μ1 => match v.frz μ1 with
  | some (d, μ2) => (g d F ρ μ2).bind fun ρ1 μ3 => .ok (.nx ρ1) μ3
  | none => .bad

def rSetLD : TSet := fun o i v H Q => rSetL o i v H Q ∨ rSetD o i v H Q
theorem set_ld {X : Cx} (hu : X.A.units + 1 < cLine) : PSet X rSetLD := fun pins s σ H o i v ov iv u Q I ro ri rv h =>
  h.elim (fun h => set_list pins s σ H o i v ov iv u Q I ro ri rv h) fun h => set_dict hu pins s σ H o i v ov iv u Q I ro ri rv h
theorem putAt_ok {K : PySem.W.Frag} {L : Addr → Prop} {H : Hp} {c c' : CV} {i d : D} {a : Addr} {y v : V} (h : putAt c i d = some c') (r : CvR K L H c a) (ry : SeeR K L H i y) (rv : Rep K L H d v) :
    ∃ o', (∀ Q : Hp → Prop, Q (upd H a o') → rSetLD (.ref a) y v H Q) ∧ ∀ H', Mv L H L H' → H' a = some o' → CvR K L H' c' a := by
  cases c with
  | lst ds =>
    obtain ⟨vs, e, rr⟩ := r
    cases i <;> simp only [putAt, reduceCtorEq] at h
    rename_i k
    cases hj : ixN ds.length k with
    | none => rw [hj] at h; cases h
    | some j =>
      rw [hj] at h
      cases h
      have ey : y = .int k := by simpa only [SeeR, Rep] using ry
      subst ey
      exact ⟨.lst (vs.set j v), fun Q q => .inl ⟨a, vs, k, j, rfl, rfl, e, by rw [rr.len]; exact hj, q⟩, fun H' m e' => ⟨_, e', Reps.mv m _ _ (Reps.set j rr rv)⟩⟩
  | dic ks ds =>
    obtain ⟨vs, e, l, rr⟩ := r
    simp only [putAt] at h
    cases hk : i.key with
    | none => rw [hk] at h; cases h
    | some k =>
      rw [hk] at h
      simp only at h
      split at h
      case isFalse => cases h
      case isTrue hz =>
        cases h
        rw [Bool.and_eq_true, decide_eq_true_eq] at hz
        have ey := key_rep hk ry
        subst ey
        obtain ⟨ws, e1, r1⟩ := val_put (ndK_ok hz.1) l rr rv
        refine ⟨.dK (putK (ks.zip vs) k v), fun Q q => .inr ⟨a, _, rfl, DPut.k e ?_, q⟩, fun H' m e' => ⟨ws, by rw [e', e1], dput_len l, Reps.mv m _ _ r1⟩⟩
        rw [List.length_zip]
        have := lim_ok (Nat.le_of_lt hz.2)
        have h2 : LIM < sizeLine := by decide
        omega
section
variable {K : PySem.W.Frag} {XC : Nat → Addr} {F : Fns} {W : WX} {Acc : Addr → Prop} {ι ι1 ι2 : List Addr} {μ μ1 μ2 : Sto} {H H0 H1 H2 : Hp} {σ : L2.St}
/-- an expression in a target -/
theorem rd.tgt {α β : Type} {Rel : (Addr → Prop) → Sto → List Addr → Hp → Hp → α → β → Prop} {f : Fns → Env → Sto → Res α} {ρ : Env} {g : α → Sto → Res Env} {P : β → Hp → Prop} {Q : L2.St → Hp → Prop}
    (t : Stp K Acc ι μ H ι μ1 H1) (E : EnvR K (Liv Acc μ1 ι) ι H1 ρ σ) (h : wpG K XC W Acc ι μ H ((f F ρ μ1).bind g) Q)
    (k : ∀ a μ' b H', Stp K Acc ι μ1 H1 ι μ' H' → Rel Acc μ' ι H1 H' a b → wpG K XC W Acc ι μ H (g a μ') Q → P b H') : rd K XC F W Rel f σ H1 P := by
  refine ⟨Acc, ι, ρ, μ1, t.sim, E, ?_⟩
  cases e : f F ρ μ1 with
  | ok a μ' => rw [e] at h; exact fun b H' t' rl => k a μ' b H' t' rl h
  | exc x μ' => rw [e] at h; exact fun c d H' t' rl => h c d σ H' (t.trans t') (rl.back t)
  | bad => rw [e] at h; exact h
theorem wpG.shift {r : Res Env} {Q : L2.St → Hp → Prop} (t : Stp K Acc ι μ H ι μ1 H1) (h : wpG K XC W Acc ι μ H r Q) : wpG K XC W Acc ι μ1 H1 r Q := by
  cases r with
  | bad => exact h
  | exc x μ' => exact fun c d σ' H' t' e => h c d σ' H' (t.trans t') (e.back t)
  | ok o μ' => exact fun σ' H' t' e => h σ' H' (t.trans t') e
end
theorem PGimp {X : Cx} {e : Expr} {t t' : TG} (h : PG X e t) (i : ∀ v σ H Q, t' v σ H Q → t v σ H Q) : PG X e t' := ⟨fun pins s σ H v u Q I r q => h.run pins s σ H v u Q I r (i v σ H Q q)⟩
theorem PGsimp {X : Cx} {e : List Expr} {t t' : TGs} (h : PGs X e t) (i : ∀ v σ H Q, t' v σ H Q → t v σ H Q) : PGs X e t' := ⟨fun pins s σ H v u Q I r q => h.run pins s σ H v u Q I r (i v σ H Q q)⟩
section
variable {X : Cx} {XC : Nat → Addr} {F : Fns} {W : WX} {pos : Pos}
theorem g_nm {i : Nat} {x : Str} (hN : X.N.Nodup) (hi : X.N[i]? = some x) (hx : Loc X.env.scope x) (hf : X.fn x = true ∨ X.env.scope.names.lookup x = some .local := by first | exact .inl rfl | exact .inr rfl | assumption) : PG X (.Name x pos) (rdG X.K XC F W (gNm i)) :=
  PGimp (pg_name hN hi hx hf) fun v σ H Q ⟨Acc, ι, ρ, μ, d, S, E, r, h⟩ => h _ H (.refl S) (E.set (s := .dat d) r)
theorem gs_nil : PGs X [] (rdGs X.K XC F W []) :=
  PGsimp pgs_nil fun vs σ H Q ⟨Acc, ι, ρ, μ, ds, S, E, r, h⟩ => by
    cases ds with
    | nil => exact ⟨r.invN, h σ H (.refl S) E⟩
    | cons d ds => exact h.elim
theorem gs_cons {e : Expr} {es : List Expr} {g : SG} {gs : List SG} (h1 : PG X e (rdG X.K XC F W g)) (h2 : PGs X es (rdGs X.K XC F W gs))
    (hs : (assignEach (e :: es) X.env).map (·.2) = assign e X.env :: (assignEach es X.env).map (·.2) := by rfl) : PGs X (e :: es) (rdGs X.K XC F W (g :: gs)) :=
  PGsimp (pgs_cons h1 h2 hs) fun vs σ H Q ⟨Acc, ι, ρ, μ, ds, S, E, r, h⟩ => by
    cases ds with
    | nil => exact h.elim
    | cons d ds =>
      obtain ⟨v, rs, rfl, r1, r2⟩ := r.inv
      refine ⟨v, rs, rfl, Acc, ι, ρ, μ, d, S, E, r1, ?_⟩
      unfold sgs at h
      cases e : g d F ρ μ with
      | bad => rw [e] at h; exact h
      | exc x μ1 => rw [e] at h; exact h
      | ok ρ1 μ1 =>
        rw [e] at h
        exact fun σ' H' t' E' => ⟨Acc, ι, ρ1, μ1, ds, t'.sim, E', Reps.mv (t'.mv S) _ _ r2, wpG.shift t' h⟩
theorem g_tp {es : List Expr} {k : Nat} {gs : List SG} {n : Nat} (hc : X.calm = true) (h : PGs X es (rdGs X.K XC F W gs)) (hl : gs.length = n := by rfl)
    (hn : (assignEach es X.env).length = n := by rfl) (hst : (assignEach es X.env).findIdx? (·.1) = none := by rfl) : PG X (.Tuple es k pos) (rdG X.K XC F W (gTp gs)) :=
  PGimp (pg_tup hc h hn hst) fun v σ H Q ⟨Acc, ι, ρ, μ, d, S, E, r, h⟩ => by
    cases d <;> try exact h.elim
    rename_i ds
    simp only [gTp] at h
    split at h
    case isFalse => exact h.elim
    case isTrue hz =>
      simp only [Rep] at r
      obtain ⟨a, vs, rfl, t, r⟩ := r
      exact ⟨a, vs, rfl, t.sq, by rw [r.len, hz, hl], Acc, ι, ρ, μ, ds, S, E, r, h⟩
theorem g_sb {o i : Expr} {fo fi : SE} (hu : X.A.units + 1 < cLine) (ho : PE X o (rdE X.K XC F W fo)) (hi : PE X i (rdE X.K XC F W fi))
    (ha : ∀ v, assign (.Subscript o i pos) X.env v = (do
      let ov ← holding [v] (eval o X.env)
      let iv ← holding [v, ov] (eval i X.env)
      standAt pos
      holding [v, ov, iv] (setItem ov iv v)
      release [v, ov, iv] []) := by intro _; rfl) : PG X (.Subscript o i pos) (rdG X.K XC F W (gSb fo fi)) :=
  PGimp (pg_sub ho hi (set_ld hu) ha) fun v σ H Q ⟨Acc, ι, ρ, μ, d, S, E, r, h⟩ => by
    refine rd.tgt (Stp.refl S) E h fun a μ1 x H1 t1 r1 h1 => ?_
    refine rd.tgt t1 (E.mv t1 S) h1 fun b μ2 y H2 t2 r2 h2 => ?_
    have t12 := t1.trans t2
    cases a with
    | dat _ => exact h2.elim
    | new _ => exact h2.elim
    | cel k =>
      obtain ⟨ad, ek, ex⟩ := r1.1
      subst ex
      simp only at h2
      cases hs : b.see μ2 with
      | none => rw [hs] at h2; exact h2.elim
      | some iv =>
        cases hc : μ2[k]? with
        | none => rw [hs, hc] at h2; exact h2.elim
        | some c =>
          rw [hs, hc] at h2
          simp only at h2
          cases hl : c.live with
          | false => rw [hl] at h2; exact h2.elim
          | true =>
            cases hp : putAt c.val iv d with
            | none => rw [hl, hp] at h2; exact h2.elim
            | some c' =>
              rw [hl, hp] at h2
              simp only at h2
              obtain ⟨b2, e2, rc⟩ := t2.sim.cell k c hc
              rw [ek] at e2; cases e2
              obtain ⟨o', q1, q2⟩ := putAt_ok hp rc (see_ok t2.sim r2.1 hs) (Rep.mv (t12.mv S) _ _ r)
              have tp := t2.sim.put hc hl ek q2
              exact q1 _ (h2 σ _ (t12.trans tp) (E.mv (t12.trans tp) S))
theorem s_asg {tg e : Expr} {fe : SE} {g : SG} (he : PE X e (rdE X.K XC F W fe)) (hg : PG X tg (rdG X.K XC F W g)) (hs : swapsWithSole [tg] e pos.line X.env = pure false := by rfl) (hw : swappedStores [tg] e X.env = pure none := by rfl)
    (h1 : (assignEach [tg] X.env).map (·.2) = [assign tg X.env] := by rfl) : PS X (.Assign [tg] e pos) (rdS X.K XC F W (sAsg fe g)) :=
  PSimp (ps_asg he hg hs hw h1) fun D σ H ⟨Acc, ι, ρ, μ, S, E, h⟩ => by
    refine rd.stm (Stp.refl S) E h fun v μ1 x H1 t1 r1 h1 => ?_
    cases hz : v.frz μ1 with
    | none => rw [hz] at h1; exact h1.elim
    | some p =>
      obtain ⟨d, μ2⟩ := p
      rw [hz] at h1
      simp only at h1
      obtain ⟨t2, rd⟩ := frz_ok t1.sim (fun a h => S.trk h) (fun a h => (S.acc a h).2) r1.1 hz
      have t12 := t1.trans t2
      refine ⟨Acc, ι, ρ, μ2, d, t2.sim, E.mv t12 S, rd, ?_⟩
      cases e : g d F ρ μ2 with
      | bad => rw [e] at h1; exact h1
      | exc x μ3 => rw [e] at h1; exact fun c da σ' H' t' e' => h1 ι H' c da σ' (t12.trans t') (e'.back t12)
      | ok ρ1 μ3 => rw [e] at h1; exact fun σ' H' t' E' => h1 ι H' σ' (t12.trans t') E'
end
end VM
/-! The for loop; methods of lists and dicts. -/
namespace VM
open PySem L2 PyProof.Rows

def forL (F : Fns) (s : Src) (g : SG) (b : SS) : Nat → Nat → Env → Sto → Res SO
  | 0, _, _, _ => .bad
  | n + 1, i, ρ, μ => match s.at μ with
    | none => .bad
    | some ds => match ds[i]? with
      | none => .ok (.nx ρ) μ
      | some d => (g d F ρ μ).bind fun ρ1 μ1 => match b F ρ1 μ1 with
        | .ok (.nx ρ2) μ2 => forL F s g b n (i + 1) ρ2 μ2
        | .ok (.ct ρ2) μ2 => forL F s g b n (i + 1) ρ2 μ2
        | .ok (.bk ρ2) μ2 => .ok (.nx ρ2) μ2
        | r => r
def sFor (it : SI) (g : SG) (b : SS) : SS := fun F ρ μ => (it F ρ μ).bind fun s μ1 => forL F s g b (s.len μ1 + 1) 0 ρ μ1
section
variable {X : Cx} {XC : Nat → Addr} {F : Fns} {W : WX} {pos : Pos}
theorem s_for {tg iter : Expr} {body : List Stmt} {fi : SI} {g : SG} {fb : SS} (hp : PassesOwn (model X.prog X.w) X.A X.env X.xe) (hc : X.calm = true) (hi : PI X tg iter (rdI X.K XC F W fi)) (hg : PG X tg (rdG X.K XC F W g)) (hb : PSs X body (rdS X.K XC F W fb))
    (hs : ∀ x, foldedSetIterable iter X.env x = pure x := by intro _; rfl) : PS X (.For tg iter body [] pos) (rdS X.K XC F W (sFor fi g fb)) :=
  PSimp (ps_for hp hc hi hg hb hs) fun D σ H ⟨Acc, ι, ρ, μ, S, E, h⟩ => by
    refine ⟨Acc, ι, ρ, μ, S, E, ?_⟩
    unfold sFor at h
    cases e0 : fi F ρ μ with
    | bad => rw [e0] at h; exact h
    | exc x μ1 => rw [e0] at h; exact fun c d H' t e => h ι H' c d σ t e
    | ok s μ1 =>
      rw [e0] at h
      simp only [Res.bind] at h
      intro J H1 t1 jr
      refine ⟨fun i m σ H => ∃ (Acc' : Addr → Prop) (ι' : List Addr) (ρ' : Env) (μ' : Sto), Sim X.K Acc' μ' ι' H ∧ EnvR X.K (Liv Acc' μ' ι') ι' H ρ' σ ∧ Mv (Liv Acc μ1 ι) H1 (Liv Acc' μ' ι') H ∧ (∀ (k : Nat) a, ι[k]? = some a → ι'[k]? = some a) ∧
        wpS X.K XC W Acc' ι' μ' H (forL F s g fb m i ρ' μ') D, ⟨s.len μ1 + 1, Acc, ι, ρ, μ1, t1.sim, E.mv t1 S, fun a o e n => ⟨e, n⟩, fun k a e => e, wpS.shift t1 h⟩, ?_⟩
      rintro i m σ' H' ⟨Acc', ι', ρ', μ', S', E', m', pr, h'⟩
      cases m with
      | zero => exact h'.elim
      | succ m =>
        unfold forL at h'
        cases ea : s.at μ' with
        | none => rw [ea] at h'; exact h'.elim
        | some ds =>
          rw [ea] at h'
          simp only at h'
          have j := jr Acc' ι' μ' H' S' m' pr ds ea i
          cases ei : ds[i]? with
          | none =>
            rw [ei] at h'
            exact .inl ⟨j.2 (List.getElem?_eq_none_iff.mp ei), h' ι' H' σ' (.refl S') E'⟩
          | some d =>
            rw [ei] at h'
            simp only at h'
            obtain ⟨jg, jy⟩ := j.1 d ei
            refine .inr ⟨jg, fun σ H => ∃ (Acc' : Addr → Prop) (ι' : List Addr) (ρ' : Env) (μ' : Sto), Sim X.K Acc' μ' ι' H ∧ EnvR X.K (Liv Acc' μ' ι') ι' H ρ' σ ∧ Mv (Liv Acc μ1 ι) H1 (Liv Acc' μ' ι') H ∧ (∀ (k : Nat) a, ι[k]? = some a → ι'[k]? = some a) ∧
              wpS X.K XC W Acc' ι' μ' H (forL F s g fb m (i + 1) ρ' μ') D, fun σ2 H2 q => ⟨m, Nat.lt_succ_self m, q⟩, fun x Hy hy => ?_⟩
            obtain ⟨ty, ry⟩ := jy x Hy hy
            refine ⟨Acc', ι', ρ', μ', d, ty.sim, E'.mv ty S', ry, ?_⟩
            replace h' := wpS.shift ty h'
            have my := m'.trans (ty.mv S')
            cases eg : g d F ρ' μ' with
            | bad => rw [eg] at h'; exact h'
            | exc x2 μ2 => rw [eg] at h'; exact fun c d σ2 H2 t2 e2 => h' ι' H2 c d σ2 t2 e2
            | ok ρ2 μ2 =>
              rw [eg] at h'
              simp only [Res.bind] at h'
              intro σ2 H2 t2 E2
              refine ⟨Acc', ι', ρ2, μ2, t2.sim, E2, ?_⟩
              replace h' := wpS.shift t2 h'
              have my2 := my.trans (t2.mv ty.sim)
              cases eb : fb F ρ2 μ2 with
              | bad => rw [eb] at h'; exact h'
              | exc x3 μ3 => rw [eb] at h'; exact h'
              | ok o μ3 =>
                rw [eb] at h'
                cases o with
                | rt v => exact h'
                | bk ρ3 => exact fun ι3 H3 σ3 t3 E3 => h' ι3 H3 σ3 t3 E3
                | nx ρ3 => exact fun ι3 H3 σ3 t3 E3 => ⟨Acc', ι3, ρ3, μ3, t3.sim, E3, my2.trans (t3.mv t2.sim), fun k a e => t3.get (pr k a e), wpS.shift t3 h'⟩
                | ct ρ3 => exact fun ι3 H3 σ3 t3 E3 => ⟨Acc', ι3, ρ3, μ3, t3.sim, E3, my2.trans (t3.mv t2.sim), fun k a e => t3.get (pr k a e), wpS.shift t3 h'⟩
end

/-! ### methods of a list that change it -/
abbrev Act := List D → List D → Option (D × List D)
def MtSpec (K : PySem.W.Frag) (r : V → List V → Hp → VK → Prop) (act : Act) : Prop :=
  ∀ (L : Addr → Prop) (H : Hp) (a : Addr) (ds args : List D) (xs vs : List V) (rd : D) (ds' : List D), H a = some (.lst xs) → Reps K L H ds xs → Reps K L H args vs → act ds args = some (rd, ds') →
    ∃ rv xs', Reps K L H ds' xs' ∧ Rep K L H rd rv ∧ ∀ Q : VK, Q rv (upd H a (.lst xs')) → r (.ref a) vs H Q
def eCM (act : Act) (o : SE) (a : SA) : SE := fun F ρ μ => (o F ρ μ).bind fun v μ1 => match v with
  | .cel k => match μ1[k]? with
    | some c0 => match c0.val with
      | .lst _ => (a F ρ μ1).bind fun vs μ2 => match frzs vs μ2 with
        | some (args, μ3) => match μ3[k]? with
          | some c => match c.live, c.val with
            | true, .lst ds => match act ds args with
              | some (r, ds') => .ok (.dat r) (μ3.set k ⟨true, .lst ds'⟩)
              | none => .bad
            | _, _ => .bad
          | none => .bad
        | none => .bad
      | _ => .bad
    | none => .bad
  | _ => .bad
def aAppend : Act := fun ds args => match args with
  | [d] => if ds.length < LIM then some (.non, ds ++ [d]) else none
  | _ => none
def aPop : Act := fun ds args => match args with
  | [] => match ds[ds.length - 1]? with
    | some d => some (d, ds.dropLast)
    | none => none
  | _ => none
def aPopAt : Act := fun ds args => match args with
  | [.int i] => match ixN ds.length i with
    | some j => match ds[j]? with
      | some d => if ds.length ≤ LIM then some (d, ds.eraseIdx j) else none
      | none => none
    | none => none
  | _ => none
def aInsert : Act := fun ds args => match args with
  | [.int i, d] => if 0 ≤ i ∧ i < LIM ∧ ds.length < LIM then some (.non, ds.take i.toNat ++ [d] ++ ds.drop i.toNat) else none
  | _ => none
def aExtend : Act := fun ds args => match args with
  | [.lst es] => if ds.length + es.length ≤ LIM then some (.non, ds ++ es) else none
  | _ => none
section
variable {K : PySem.W.Frag}
theorem Reps.dropLast {L : Addr → Prop} {H : Hp} {ds : List D} {vs : List V} (h : Reps K L H ds vs) : Reps K L H ds.dropLast vs.dropLast := by
  rw [List.dropLast_eq_take, List.dropLast_eq_take, h.len]
  exact Reps.take _ h
theorem Reps.eraseIdx {L : Addr → Prop} {H : Hp} {ds : List D} {vs : List V} (i : Nat) (h : Reps K L H ds vs) : Reps K L H (ds.eraseIdx i) (vs.eraseIdx i) := by
  rw [List.eraseIdx_eq_take_drop_succ, List.eraseIdx_eq_take_drop_succ]
  exact (Reps.take _ h).app (Reps.drop _ h)
theorem Reps.one {L : Addr → Prop} {H : Hp} {d : D} {vs : List V} (h : Reps K L H [d] vs) : ∃ v, vs = [v] ∧ Rep K L H d v := by
  obtain ⟨v, r, e, h1, h2⟩ := h.inv
  exact ⟨v, by rw [e, h2.invN], h1⟩
theorem ms_append : MtSpec K rAppend aAppend := by
  intro L H a ds args xs vs rd ds' ha r ra h
  cases args with
  | nil => cases h
  | cons d t =>
    cases t with
    | cons _ _ => cases h
    | nil =>
      simp only [aAppend] at h
      split at h
      case isFalse => cases h
      case isTrue hz =>
        cases h
        obtain ⟨v, rfl, rv⟩ := ra.one
        refine ⟨.non, xs ++ [v], r.app (Reps.cons rv Reps.nil), rep_non, fun Q q => ⟨a, xs, v, rfl, rfl, ha, ?_, q⟩⟩
        rw [r.len]
        have h2 : LIM < sizeLine := by decide
        omega
theorem ms_pop : MtSpec K rPop aPop := by
  intro L H a ds args xs vs rd ds' ha r ra h
  cases args with
  | cons d t => cases h
  | nil =>
    simp only [aPop] at h
    cases hd : ds[ds.length - 1]? with
    | none => rw [hd] at h; cases h
    | some d =>
      rw [hd] at h
      cases h
      obtain ⟨v, hv, rv⟩ := r.get hd
      refine ⟨v, xs.dropLast, r.dropLast, rv, fun Q q => ⟨a, xs, v, rfl, ra.invN, ha, ?_, q⟩⟩
      rw [r.len]; exact hv
theorem ms_popAt : MtSpec K rPopAt aPopAt := by
  intro L H a ds args xs vs rd ds' ha r ra h
  cases args with
  | nil => cases h
  | cons d t =>
    cases t with
    | cons _ _ => cases d <;> cases h
    | nil =>
      cases d <;> try (cases h; done)
      rename_i i
      simp only [aPopAt] at h
      cases hi : ixN ds.length i with
      | none => rw [hi] at h; cases h
      | some j =>
        rw [hi] at h
        simp only at h
        cases hd : ds[j]? with
        | none => rw [hd] at h; cases h
        | some d =>
          rw [hd] at h
          simp only at h
          split at h
          case isFalse => cases h
          case isTrue hz =>
            cases h
            obtain ⟨v, hv, rv⟩ := r.get hd
            obtain ⟨w, rfl, rw'⟩ := ra.one
            have ew : w = .int i := by simpa only [Rep] using rw'
            subst ew
            obtain ⟨h1, h2, h3, h4⟩ := ixN_seq hi
            have hL : (LIM : Int) < 2 ^ 63 := by decide
            have hz2 : (ds.length : Int) ≤ LIM := by exact_mod_cast hz
            refine ⟨v, xs.eraseIdx j, r.eraseIdx j, rv, fun Q q => ⟨a, xs, i, j, v, rfl, rfl, ha, by omega, by omega, by rw [r.len]; exact h1, hv, q⟩⟩
theorem ms_insert : MtSpec K (fun x vs H Q => ∃ (l : Addr) (xs : List V) (i : Int) (y : V), x = .ref l ∧ vs = [.int i, y] ∧ H l = some (.lst xs) ∧ xs.length < sizeLine ∧ 0 ≤ i ∧ i < 2 ^ 63 ∧
    Q .non (upd H l (.lst (xs.take i.toNat ++ [y] ++ xs.drop i.toNat)))) aInsert := by
  intro L H a ds args xs vs rd ds' ha r ra h
  cases args with
  | nil => cases h
  | cons d0 t =>
    cases d0 <;> try (cases h; done)
    rename_i i
    cases t with
    | nil => cases h
    | cons d t =>
      cases t with
      | cons _ _ => cases h
      | nil =>
        simp only [aInsert] at h
        split at h
        case isFalse => cases h
        case isTrue hz =>
          cases h
          obtain ⟨w, rs, rfl, rw', r2⟩ := ra.inv
          obtain ⟨v, rfl, rv⟩ := r2.one
          have ew : w = .int i := by simpa only [Rep] using rw'
          subst ew
          have hL : (LIM : Int) < 2 ^ 63 := by decide
          have hL2 : LIM < sizeLine := by decide
          refine ⟨.non, _, ((Reps.take i.toNat r).app (Reps.cons rv Reps.nil)).app (Reps.drop i.toNat r), rep_non, fun Q q => ⟨a, xs, i, v, rfl, rfl, ha, ?_, hz.1, ?_, q⟩⟩
          · rw [r.len]; have := hz.2.2; omega
          · have := hz.2.1; omega
theorem ms_extend : MtSpec K rExtend aExtend := by
  intro L H a ds args xs vs rd ds' ha r ra h
  cases args with
  | nil => cases h
  | cons d0 t =>
    cases t with
    | cons _ _ => cases d0 <;> cases h
    | nil =>
      cases d0 <;> try (cases h; done)
      rename_i es
      simp only [aExtend] at h
      split at h
      case isFalse => cases h
      case isTrue hz =>
        cases h
        obtain ⟨v, rfl, rv⟩ := ra.one
        simp only [Rep] at rv
        obtain ⟨b, zs, rfl, hb, nb, rz⟩ := rv
        refine ⟨.non, xs ++ zs, r.app rz, rep_non, fun Q q => ⟨a, b, xs, zs, rfl, rfl, ha, hb, ?_, q⟩⟩
        rw [r.len, rz.len]
        exact lim_ok hz
end
section
variable {K : PySem.W.Frag} {XC : Nat → Addr} {F : Fns} {W : WX} {H : Hp} {σ : L2.St} {fo : SE} {fa : SA} {act : Act} {r : V → List V → Hp → VK → Prop} {Q : VK}
theorem cm_read (ms : MtSpec K r act) (h : rdE K XC F W (eCM act fo fa) σ H Q) : tBM K "list" r (rdE K XC F W fo) (rdA K XC F W fa) σ H Q := by
  obtain ⟨Acc, ι, ρ, μ, S, E, h⟩ := h
  refine rd.bind (Stp.refl S) E h fun a μ1 x H1 e1 t1 r1 h1 => ?_
  cases a with
  | dat _ => exact h1.elim
  | new _ => exact h1.elim
  | cel k =>
    obtain ⟨ad, ek, ex⟩ := r1.1
    subst ex
    simp only at h1
    cases hc0 : μ1[k]? with
    | none => rw [hc0] at h1; exact h1.elim
    | some c0 =>
      rw [hc0] at h1
      simp only at h1
      cases hv0 : c0.val with
      | dic _ _ => rw [hv0] at h1; exact h1.elim
      | lst ds0 =>
        rw [hv0] at h1
        simp only at h1
        obtain ⟨b0, e0, rc0⟩ := t1.sim.cell k c0 hc0
        rw [ek] at e0; cases e0
        rw [hv0] at rc0
        obtain ⟨xs0, hx0, _⟩ := rc0
        refine ⟨.inl ⟨rfl, xs0, SqL.of hx0⟩, ?_⟩
        refine rd.bind t1 (E.mv t1 S) h1 fun vs μ2 ys H2 e2 t2 r2 h2 => ?_
        have t12 := t1.trans t2
        cases hf : frzs vs μ2 with
        | none => rw [hf] at h2; exact h2.elim
        | some p =>
          obtain ⟨args, μ3⟩ := p
          rw [hf] at h2
          simp only at h2
          obtain ⟨t3, r3⟩ := frzs_ok t2.sim (fun a h => t1.sim.trk h) (fun a h => (t1.sim.acc a h).2) r2 hf
          cases hc : μ3[k]? with
          | none => rw [hc] at h2; exact h2.elim
          | some c =>
            rw [hc] at h2
            simp only at h2
            cases hl : c.live with
            | false => rw [hl] at h2; exact h2.elim
            | true =>
              cases hv : c.val with
              | dic _ _ => rw [hl, hv] at h2; exact h2.elim
              | lst ds =>
                rw [hl, hv] at h2
                simp only at h2
                cases hact : act ds args with
                | none => rw [hact] at h2; exact h2.elim
                | some p =>
                  obtain ⟨rd, ds'⟩ := p
                  rw [hact] at h2
                  simp only at h2
                  obtain ⟨b, eb, rc⟩ := t3.sim.cell k c hc
                  rw [ek] at eb; cases eb
                  rw [hv] at rc
                  obtain ⟨xs, hx, rx⟩ := rc
                  obtain ⟨rv, xs', q1, q2, q3⟩ := ms _ _ ad ds args xs ys rd ds' hx rx r3 hact
                  have tp := t3.sim.put (c' := .lst ds') hc hl ek (o := .lst xs') fun H' m e => ⟨xs', e, Reps.mv m _ _ q1⟩
                  refine q3 Q (h2 rv _ (t12.trans (t3.trans tp)) ⟨?_, trivial⟩)
                  exact Rep.mv (tp.mv t3.sim) _ _ q2
theorem cm_read0 (ms : MtSpec K r act) (h : rdE K XC F W (eCM act fo (evs [])) σ H Q) : tBM0 K "list" r (rdE K XC F W fo) σ H Q := by
  obtain ⟨Acc, ι, ρ, μ, S, E, h⟩ := h
  refine rd.bind (Stp.refl S) E h fun a μ1 x H1 e1 t1 r1 h1 => ?_
  cases a with
  | dat _ => exact h1.elim
  | new _ => exact h1.elim
  | cel k =>
    obtain ⟨ad, ek, ex⟩ := r1.1
    subst ex
    simp only at h1
    cases hc0 : μ1[k]? with
    | none => rw [hc0] at h1; exact h1.elim
    | some c0 =>
      rw [hc0] at h1
      simp only at h1
      cases hv0 : c0.val with
      | dic _ _ => rw [hv0] at h1; exact h1.elim
      | lst ds0 =>
        obtain ⟨b0, e0, rc0⟩ := t1.sim.cell k c0 hc0
        rw [ek] at e0; cases e0
        rw [hv0] at rc0
        obtain ⟨xs0, hx0, rx0⟩ := rc0
        refine ⟨.inl ⟨rfl, xs0, SqL.of hx0⟩, ?_⟩
        simp only [hv0, evs, Res.bind, frzs, hc0] at h1
        cases hl : c0.live with
        | false => rw [hl] at h1; exact h1.elim
        | true =>
          rw [hl] at h1
          simp only at h1
          cases hact : act ds0 [] with
          | none => rw [hact] at h1; exact h1.elim
          | some p =>
            obtain ⟨rd, ds'⟩ := p
            rw [hact] at h1
            simp only at h1
            obtain ⟨rv, xs', q1, q2, q3⟩ := ms _ _ ad ds0 [] xs0 [] rd ds' hx0 rx0 Reps.nil hact
            have tp := t1.sim.put (c' := .lst ds') hc0 hl ek (o := .lst xs') fun H' m e => ⟨xs', e, Reps.mv m _ _ q1⟩
            exact q3 Q (h1 rv _ (t1.trans tp) ⟨Rep.mv (tp.mv t1.sim) _ _ q2, trivial⟩)
end
end VM
/-! Methods: the rules. -/
namespace VM
open PySem L2 PyProof.Rows
section
variable {X : Cx} {XC : Nat → Addr} {F : Fns} {W : WX} {o e f : Expr} {fo fe ff : SE} {apos cpos pos : Pos}
theorem c_append (ho : PE X o (rdE X.K XC F W fo)) (he : PE X e (rdE X.K XC F W fe))
    (hbase : attributeBase o "append" X.env (eval o X.env) = eval o X.env := by rfl)
    (hfew : ((backTo cpos (starEach [e] X.env)).all (fun x => !x.1) && (backToKw cpos (keywordEach [] X.env)).all (fun x => x.1.isSome)
      && decide ([e].length + ([] : List Keyword).length + (if ([] : List Keyword).isEmpty then 0 else 1) < 30)) = true := by rfl)
    (hline : (apos.endLine == cpos.line) = true := by rfl) (hs : starEach [e] X.env = (false, eval e X.env) :: starEach [] X.env := by rfl) (hplain : (backTo cpos (starEach [] X.env)).any (·.1) = false := by rfl) :
    PE X (.Call (.Attribute o "append" apos) [e] [] cpos) (rdE X.K XC F W (eCM aAppend fo (evs [fe]))) :=
  PEimp (pe_bm PySem.F.plainAttrs_list PySem.F.slot_list_append PySem.F.type_list_append mt_append ho (ca_cons he ca_nil hs) hbase hfew hline hs hplain) fun σ H Q h => cm_read ms_append h
theorem c_extend (ho : PE X o (rdE X.K XC F W fo)) (he : PE X e (rdE X.K XC F W fe))
    (hbase : attributeBase o "extend" X.env (eval o X.env) = eval o X.env := by rfl)
    (hfew : ((backTo cpos (starEach [e] X.env)).all (fun x => !x.1) && (backToKw cpos (keywordEach [] X.env)).all (fun x => x.1.isSome)
      && decide ([e].length + ([] : List Keyword).length + (if ([] : List Keyword).isEmpty then 0 else 1) < 30)) = true := by rfl)
    (hline : (apos.endLine == cpos.line) = true := by rfl) (hs : starEach [e] X.env = (false, eval e X.env) :: starEach [] X.env := by rfl) (hplain : (backTo cpos (starEach [] X.env)).any (·.1) = false := by rfl) :
    PE X (.Call (.Attribute o "extend" apos) [e] [] cpos) (rdE X.K XC F W (eCM aExtend fo (evs [fe]))) :=
  PEimp (pe_bm PySem.F.plainAttrs_list PySem.F.slot_list_extend PySem.F.type_list_extend mt_extend ho (ca_cons he ca_nil hs) hbase hfew hline hs hplain) fun σ H Q h => cm_read ms_extend h
theorem c_popAt (ho : PE X o (rdE X.K XC F W fo)) (he : PE X e (rdE X.K XC F W fe))
    (hbase : attributeBase o "pop" X.env (eval o X.env) = eval o X.env := by rfl)
    (hfew : ((backTo cpos (starEach [e] X.env)).all (fun x => !x.1) && (backToKw cpos (keywordEach [] X.env)).all (fun x => x.1.isSome)
      && decide ([e].length + ([] : List Keyword).length + (if ([] : List Keyword).isEmpty then 0 else 1) < 30)) = true := by rfl)
    (hline : (apos.endLine == cpos.line) = true := by rfl) (hs : starEach [e] X.env = (false, eval e X.env) :: starEach [] X.env := by rfl) (hplain : (backTo cpos (starEach [] X.env)).any (·.1) = false := by rfl) :
    PE X (.Call (.Attribute o "pop" apos) [e] [] cpos) (rdE X.K XC F W (eCM aPopAt fo (evs [fe]))) :=
  PEimp (pe_bm PySem.F.plainAttrs_list PySem.F.slot_list_pop PySem.F.type_list_pop mt_popAt ho (ca_cons he ca_nil hs) hbase hfew hline hs hplain) fun σ H Q h => cm_read ms_popAt h
theorem c_pop (ho : PE X o (rdE X.K XC F W fo)) (hbase : attributeBase o "pop" X.env (eval o X.env) = eval o X.env := by rfl) (hline : (apos.endLine == cpos.line) = true := by rfl) :
    PE X (.Call (.Attribute o "pop" apos) [] [] cpos) (rdE X.K XC F W (eCM aPop fo (evs []))) :=
  PEimp (pe_bm0 PySem.F.plainAttrs_list PySem.F.slot_list_pop PySem.F.type_list_pop mt_pop ho hbase hline) fun σ H Q h => cm_read0 ms_pop h
theorem c_insert (ho : PE X o (rdE X.K XC F W fo)) (he : PE X e (rdE X.K XC F W fe)) (hf : PE X f (rdE X.K XC F W ff))
    (hbase : attributeBase o "insert" X.env (eval o X.env) = eval o X.env := by rfl)
    (hfew : ((backTo cpos (starEach [e, f] X.env)).all (fun x => !x.1) && (backToKw cpos (keywordEach [] X.env)).all (fun x => x.1.isSome)
      && decide ([e, f].length + ([] : List Keyword).length + (if ([] : List Keyword).isEmpty then 0 else 1) < 30)) = true := by rfl)
    (hline : (apos.endLine == cpos.line) = true := by rfl) (hs : starEach [e, f] X.env = (false, eval e X.env) :: starEach [f] X.env := by rfl) (hs2 : starEach [f] X.env = (false, eval f X.env) :: starEach [] X.env := by rfl) (hplain : (backTo cpos (starEach [f] X.env)).any (·.1) = false := by rfl) :
    PE X (.Call (.Attribute o "insert" apos) [e, f] [] cpos) (rdE X.K XC F W (eCM aInsert fo (evs [fe, ff]))) :=
  PEimp (pe_bm PySem.F.plainAttrs_list PySem.F.slot_list_insert PySem.F.type_list_insert mt_insert ho (ca_cons he (ca_cons hf ca_nil hs2) hs) hbase hfew hline hs hplain) fun σ H Q h => cm_read ms_insert h
end
end VM
/-! The promises of functions once more, where no repr is under way ahead (guards). -/
namespace VM
open PySem PySem.Spec L2 PyProof.Rows

structure FnG (P : Program) (w : World) (K : PySem.W.Frag) (mg : Str → Option Value) (base : Heap) (CX : CXT) (k : Nat) (f : Addr) (fd : FuncData) (ps : List Str) (sp : Sp) : Prop where
  lg : ∀ vs H Q E, sp vs H Q E → vs.length = ps.length
  go : ∀ (A : Around) (outer : List PySem.Env) (s : Shared) (H : Hp) (args : Args) (us : List Value) (vs : List V) (Q : VK) (E : XK), Room k A → A.guards = some [] → Env0 P w K mg base A outer s H → BindsTo s fd args (ps.zip us) → Vals vs us → sp vs H Q E → codeAny (model P w) A (.call (.ref f) args) (CR CX outer P w H s Q E) s

section
variable {X : Cx} {CX : CXT} {k : Nat} {f C : Addr} {fd : FuncData} {ps ks : List Str} {sp : Sp} {dvs : List V} {ds : List Value} {E : XK} {x m : Str} {p pos apos : Pos} {e o : Expr} {es : List Expr} {kws : List Keyword} {ta : TE} {t tk : TA} {g : List Value → List Value → List Value} {gV : List V → List V → List V}
theorem cr_ep {pins : List (Addr × Obj)} {σ : L2.St} {H : Hp} {s : Shared} {Q : VK} (hx : Passes CX X E) (I : Inv X pins σ H s) : ∀ (r : Result) (s' : Shared), CR CX X.stack X.prog X.w H s Q E r s' → match r with
    | .ok (.ret u) => EP X pins σ Q u s'
    | .ok _ => False
    | .error e => X.xe e s' := fun r s' hq => by
  cases r with
  | error e => exact hx pins σ H s e s' I hq
  | ok fl => cases fl <;> first | exact I.after hq | exact hq
theorem run_g {pins : List (Addr × Obj)} {σ : L2.St} {H : Hp} {s : Shared} {Q : VK} {us : List Value} {kw : List (Str × Value)} {ws : List Value} {vs : List V} (F : FnG X.prog X.w X.K X.mg X.base CX k f fd ps sp) (hr : Room k X.A) (hG : X.A.guards = some []) (hx : Passes CX X E)
    (I : Inv X pins σ H s) (hb : BindsTo s fd ⟨us, kw⟩ (ps.zip ws)) (r : Vals vs ws) (h : sp vs H Q E) : wpAny (model X.prog X.w) X.A (call (.ref f) us kw) (EP X pins σ Q) X.xe s :=
  wpAny_call (codeAny_mono (F.go X.A X.stack s H ⟨us, kw⟩ ws vs Q E hr hG I.env0 hb r h) fun r s' hq => by
    have z := cr_ep hx I r s' hq
    cases r with
    | error e => exact z
    | ok fl => cases fl <;> exact z)
theorem run_gp {pins : List (Addr × Obj)} {σ : L2.St} {H : Hp} {s : Shared} {Q : VK} {us : List Value} {vs : List V} (F : FnG X.prog X.w X.K X.mg X.base CX k f fd ps sp) (hr : Room k X.A) (hG : X.A.guards = some []) (hb : Binds X.K fd ps ds) (hd : Vals dvs ds) (hx : Passes CX X E)
    (I : Inv X pins σ H s) (r : Vals vs us) (h : sp (vs ++ dvs) H Q E) : wpAny (model X.prog X.w) X.A (call (.ref f) us) (EP X pins σ Q) X.xe s :=
  run_g F hr hG hx I (hb s us I.kIn (by rw [← (r.append hd).length]; exact F.lg _ _ _ _ h)) (r.append hd) h
theorem pe_g (F : FnG X.prog X.w X.K X.mg X.base CX k f fd ps sp) (hr : Room k X.A) (hG : X.A.guards = some []) (hg : Gl X x) (hm : X.mg x = some (.ref f)) (hk : PySem.W.keepIn X.K (.ref f) = true) (hb : Binds X.K fd ps ds) (hd : Vals dvs ds) (hx : Passes CX X E)
    (ha : PA X (e :: es) t) (hdb : (x == ("__debug__" : Str)) = false) (he : starEach (e :: es) X.env = (false, eval e X.env) :: starEach es X.env) (hpl : (backTo pos (starEach es X.env)).any (·.1) = false) :
    PE X (.Call (.Name x p) (e :: es) [] pos) (tCall sp dvs E t) := ⟨fun pins s σ H Q I h => wpAny_Call_Name_kw (ld_glob I hg hm (PySem.W.callWith_K (h₀ := X.base) I.ok.mod.kin hk
      (thn (ha.run pos pins s σ H _ I h) fun us s1 ⟨vs, H1, I1, r, q⟩ => ⟨I1.kIn, run_gp F hr hG hb hd hx I1 r q⟩) he hpl) hdb)⟩
theorem pe_g0 (F : FnG X.prog X.w X.K X.mg X.base CX k f fd ps sp) (hr : Room k X.A) (hG : X.A.guards = some []) (hg : Gl X x) (hm : X.mg x = some (.ref f)) (hk : PySem.W.keepIn X.K (.ref f) = true) (hb : Binds X.K fd ps ds) (hd : Vals dvs ds) (hx : Passes CX X E)
    (hdb : (x == ("__debug__" : Str)) = false) : PE X (.Call (.Name x p) [] [] pos) (tCall sp dvs E tNil) :=
  ⟨fun pins s σ H Q I h => wpAny_Call_Name_kw (ld_glob I hg hm (PySem.W.callWith_K0 I.kIn hk (run_gp (us := []) F hr hG hb hd hx I .nil h)) hdb)⟩
theorem pe_gK (F : FnG X.prog X.w X.K X.mg X.base CX k f fd ps sp) (hr : Room k X.A) (hG : X.A.guards = some []) (hg : Gl X x) (hm : X.mg x = some (.ref f)) (hk : PySem.W.keepIn X.K (.ref f) = true) (hb : KBinds X.K fd ps ks g gV) (hx : Passes CX X E)
    (ha : PA X (e :: es) t) (hkw : PK X kws tk) (hall : (backToKw pos (keywordEach kws X.env)).all (·.1.isSome) = true) (hks : (backToKw pos (keywordEach kws X.env)).filterMap (·.1) = ks)
    (hdb : (x == ("__debug__" : Str)) = false) (he : starEach (e :: es) X.env = (false, eval e X.env) :: starEach es X.env)
    (hpl : ((backTo pos (starEach (e :: es) X.env)).any (·.1) || (backToKw pos (keywordEach kws X.env)).any (·.1.isNone)) = false) : PE X (.Call (.Name x p) (e :: es) kws pos) (tCallK sp gV E t tk) :=
  ⟨fun pins s σ H Q I h => wpAny_Call_Name_kw (ld_glob I hg hm (PySem.W.callWith_KW (h₀ := X.base) I.ok.mod.kin hk hall (thn (ha.run pos pins s σ H _ I h) fun us s1 ⟨vs, H1, I1, r, q⟩ =>
    thn (hkw.run pos pins s1 σ H1 _ I1 q) fun ws s2 ⟨zs, H2, I2, rz, q2⟩ => ⟨I2.kIn, by
      rw [hks]
      exact run_g F hr hG hx I2 (hb.to s2 us ws I2.kIn (by rw [← (hb.rel r rz).length]; exact F.lg _ _ _ _ q2)) (hb.rel r rz) q2⟩) hpl he) hdb)⟩
theorem pe_gKz (F : FnG X.prog X.w X.K X.mg X.base CX k f fd ps sp) (hr : Room k X.A) (hG : X.A.guards = some []) (hg : Gl X x) (hm : X.mg x = some (.ref f)) (hk : PySem.W.keepIn X.K (.ref f) = true) (hb : KBinds X.K fd ps ks g gV) (hx : Passes CX X E)
    (hkw : PK X kws tk) (hall : (backToKw pos (keywordEach kws X.env)).all (·.1.isSome) = true) (hks : (backToKw pos (keywordEach kws X.env)).filterMap (·.1) = ks)
    (hdb : (x == ("__debug__" : Str)) = false) (hpl : ((backTo pos (starEach [] X.env)).any (·.1) || (backToKw pos (keywordEach kws X.env)).any (·.1.isNone)) = false) : PE X (.Call (.Name x p) [] kws pos) (tCallK sp gV E tNil tk) :=
  ⟨fun pins s σ H Q I h => wpAny_Call_Name_kw (ld_glob I hg hm (PySem.W.callWith_KW0 (h₀ := X.base) I.ok.mod.kin hk hall (thn (hkw.run pos pins s σ H _ I h) fun ws s2 ⟨zs, H2, I2, rz, q2⟩ => ⟨I2.kIn, by
      rw [hks]
      exact run_g F hr hG hx I2 (hb.to s2 [] ws I2.kIn (by rw [← (hb.rel .nil rz).length]; exact F.lg _ _ _ _ q2)) (hb.rel .nil rz) q2⟩) hpl) hdb)⟩
end

/-- a def, by its body, with the guards known -/
theorem fnG_of {CX : CXT} {P : Program} {w : World} {K : PySem.W.Frag} {mg : Str → Option Value} {base : Heap} {k : Nat} {x qual : Str} {st : Stmt} {f : Addr} {fd : FuncData} {N ps : List Str} {sp : Sp} (F : Fun K x qual st f fd) (S : FnScope N ps (defScope st))
    (len : ∀ vs H Q E, sp vs H Q E → vs.length = ps.length)
    (hbody : ∀ (cdv : Value) (A : Around) (outer : List PySem.Env) (s : Shared) (H : Hp) (vs : List V) (Q : VK) (E : XK), Room k (A.deeper (envOfC qual (defScope st) s.heap.objs.size f cdv)) → A.guards = some [] → sp vs H Q E →
      ∃ t, PSs (cxOf CX P w K mg base N qual (defScope st) f cdv A outer s H E) (defBody st) t ∧ t { nx := fun _ H' => Q .non H', rt := Q } (L2.start N vs) H) : FnG P w K mg base CX (k + 1) f fd ps sp := by
  obtain ⟨oc, od, kV, doc, pm, an, cdv, ct, osl, rfl, lk, hcd⟩ := F.ex
  refine ⟨len, fun A outer s H args us vs Q E hr hG e0 hb r hsp => ?_⟩
  have hl := len _ _ _ _ hsp
  have inH : K.In s.heap := e0.mod.kin.keeps fun b o e => (e0.bs b o e).1
  have nol : s.heap.NoLimit := e0.mod.nolimit.keeps fun b o e => (e0.bs b o e).1
  refine codeAny_call_function hr.depth (inH _ _ lk) rfl S.co S.gen rfl (PySem.W.codeRec_of inH hcd) (hb _ _ _ _ (wpAny_newFunctionEnv_cells S.kind (fun ⟨n, v⟩ hy => ?_) fun env he s1 x => ?_))
  · exact (S.par n (List.of_mem_zip hy).1).elim .inl fun q => .inr ⟨q, PySem.W.cellsFrom_some _ _ _ (.inl q)⟩
  subst he
  refine ⟨nol.keeps x.toInCall.keep, codeAny_func ?_⟩
  obtain ⟨t, ht, hq⟩ := hbody cdv A outer s H vs Q E (hr.deeper _) hG hsp
  have I := inv_start (CX := CX) (E := E) S hr.hd e0 hl r x
  refine wpAny_mono (ht.run [] s1 (L2.start N vs) H _ I hq) (fun fl s' hs => ?_) fun e s' hs => hs
  cases fl with
  | ret u =>
    obtain ⟨v, σ', H', J, rv, q⟩ := hs
    exact ⟨v, H', J.os, J.bare, J.base, J.hok, rv, q⟩
  | next =>
    obtain ⟨σ', H', J, q⟩ := hs
    exact ⟨.non, H', J.os, J.bare, J.base, J.hok, rfl, q⟩
  | brk =>
    obtain ⟨_, _, _, q⟩ := hs
    exact q.elim
  | cont =>
    obtain ⟨_, _, _, q⟩ := hs
    exact q.elim

/-! ### the law's own head -/
/-- a promise at the place from which the law is called -/
theorem top_call {P : Program} {w : World} {K : PySem.W.Frag} {mg mb : Str → Option Value} {CX : CXT} {k : Nat} {fa a : Addr} {fd : FuncData} {x : Str} {sp : Sp} {s₁ : Shared} {vs : List Value} {ns : List Int}
    (KX : K.In s₁.heap) (hns : s₁.heap.Ns mainGlobals mg) (hb : s₁.heap.Ns builtinsNs mb) (hbb : ∀ x : Str, x ≠ "__name__" → mb x = bootBuiltins x) (hlim : s₁.heap.NoLimit) (hg : s₁.gens = #[])
    (ha : s₁.heap.get? a = some { cls := .type "list", data := .seq vs.toArray }) (hi : IntsAre vs ns) (hl : ns.length ≤ sizeLine) (hr : Room k callerA)
    (F : ∀ base : Heap, K.In base → base.Ns mainGlobals mg → FnG P w K mg base CX k fa fd [x] sp) (hbind : ∀ (s : Shared) (u : Value), BindsTo s fd ⟨[u], []⟩ [(x, u)])
    (hsp : ∀ H : Hp, Only H → SqL K H a (ns.map V.int) → sp [.ref a] H (fun v _ => v = .bl true) fun _ _ _ => False)
    (hCX : ∀ H e s', CX [] H s₁ (fun _ _ _ => False) e s' → False) :
    codeAny (model P w) callerA (.call (.ref fa) ⟨[.ref a], []⟩) (fun r s' => r = .ok (.ret (.bool true)) ∧ OldK s₁.heap s'.heap ∧ s'.os = s₁.os ∧ AllBare s'.gens) s₁ := by
  have lenV := hi.length
  -- the heap without the script
  have main : ∀ H : Hp, Only H → SqL K H a (ns.map V.int) → HOk P w H s₁.heap → (∀ b, H b ≠ none → b = a) → (H a ≠ none → K.lookup a = none) → codeAny (model P w) callerA (.call (.ref fa) ⟨[.ref a], []⟩) (fun r s' => r = .ok (.ret (.bool true)) ∧ OldK s₁.heap s'.heap ∧ s'.os = s₁.os ∧ AllBare s'.gens) s₁ := by
    intro H hO hS hok hA hK
    have isA : ∀ {b : Addr}, H b ≠ none → b = a := fun {b} z => hA b z
    have hid : ∀ {b : Addr} {o : Obj}, s₁.heap.get? b = some o → H b = none → (hidT s₁.heap H).get? b = some o := fun e n => hidT_get e n
    have out : ∀ {b : Addr} {o : Obj} {es : Array DictEntry} {ep : Nat}, s₁.heap.get? b = some o → o.data = .dict es ep → H b = none := by
      intro b o es ep e d
      by_cases q : H b = none
      · exact q
      · have e' := isA q
        subst e'
        rw [ha] at e
        cases e
        exact nomatch (show Data.seq vs.toArray _ = Data.dict es ep from d)
    have ns' : ∀ {b : Addr} {m : Str → Option Value}, s₁.heap.Ns b m → (hidT s₁.heap H).Ns b m := by
      rintro b m ⟨o, es, ep, e, d, r⟩
      exact ⟨o, es, ep, hid e (out e d), d, r⟩
    have inb : K.In (hidT s₁.heap H) := by
      intro b o e
      refine hid (KX b o e) ?_
      by_cases q : H b = none
      · exact q
      · have e' := isA q
        subst e'
        rw [hK q] at e
        cases e
    have hM : Mod K mg (hidT s₁.heap H) := ⟨inb, ns' hns, ⟨mb, ns' hb, hbb⟩, let ⟨mc, h1, h2⟩ := hlim; ⟨mc, ns' h1, h2⟩⟩
    have e0 : Env0 P w K mg (hidT s₁.heap H) callerA [] s₁ H := ⟨rfl, hM, fun b o e => of_hidT e, Nat.le_of_eq (hidT_size _ _), trivial, fun b hb => absurd (show b ∈ ([] : List Addr) from hb) (by simp), hok, .of_eq hg⟩
    refine codeAny_mono ((F _ inb (ns' hns)).go callerA [] s₁ H ⟨[.ref a], []⟩ [.ref a] [.ref a] _ _ hr rfl e0 (hbind s₁ (.ref a)) (.cons rfl .nil) (hsp H hO hS)) fun r s' h => ?_
    cases r with
    | error e => exact (hCX H e s' h).elim
    | ok fl =>
      cases fl with
      | next => exact h.elim
      | brk => exact h.elim
      | cont => exact h.elim
      | ret u =>
        obtain ⟨v, H', os, bare, un, hok', r', q⟩ := h
        have q : v = .bl true := q
        subst q
        obtain rfl : u = Value.bool true := r'
        refine ⟨rfl, OldK.of_keep fun b o e => ?_, os, bare⟩
        by_cases q : H b = none
        · exact un.keep b o e q (by intro z; exact absurd (show b ∈ ([] : List Addr) from z) (by simp)) (by simp)
        · rcases hO b with z | ⟨ob, xs, z⟩
          · exact absurd z q
          · obtain ⟨e1, _⟩ := hok b _ z
            obtain ⟨e2, _⟩ := hok' b _ (un.frzs b ob _ z)
            rw [e] at e1
            cases e1
            exact e2
  cases hk : K.lookup a with
  | some o =>
    have e := KX a o hk
    rw [ha] at e
    cases e
    exact main (fun _ => none) (fun _ => .inl rfl) (.inr ⟨_, vs.toArray, _, hk, rfl, rfl, rfl, by rw [List.size_toArray, lenV]; exact hl, by simpa using vals_ints hi⟩) (fun b u z => nomatch (show (none : Option HO) = some u from z)) (fun b z => absurd rfl z) fun z => absurd rfl z
  | none =>
    have at1 : ∀ b, b = a → (if b = a then some (HO.frz { cls := .type "list", data := .seq vs.toArray } (.lst (ns.map V.int))) else none) = some (HO.frz { cls := .type "list", data := .seq vs.toArray } (.lst (ns.map V.int))) := fun b h => if_pos h
    have at0 : ∀ b, ¬ b = a → (if b = a then some (HO.frz { cls := .type "list", data := .seq vs.toArray } (.lst (ns.map V.int))) else none) = none := fun b h => if_neg h
    refine main (fun b => if b = a then some (.frz { cls := .type "list", data := .seq vs.toArray } (.lst (ns.map V.int))) else none) (fun b => ?_) (.inl (.inr ⟨_, at1 a rfl⟩)) (fun b u z => ?_) (fun b z => ?_) fun _ => hk
    · by_cases h : b = a
      · exact .inr ⟨_, _, at1 b h⟩
      · exact .inl (at0 b h)
    · by_cases h : b = a
      · have z' := (at1 b h).symm.trans z
        cases z'
        subst h
        exact ⟨ha, by rw [List.length_map]; exact hl, vs, _, vals_ints hi, ha⟩
      · exact nomatch (at0 b h).symm.trans z
    · by_cases h : b = a
      · exact h
      · exact absurd (at0 b h) z
theorem top_walk {l : PySem.W.OpenLaw} {n k : Nat} {q : Program} {loose : List Str} {XP : (Str → Option Value) → Heap → Prop} {YP : World → Heap → Prop} {d : DefRec} {K : Params → PySem.W.Frag} {CX : World → CXT} {sp : World → Sp} {x : Str}
    (hn : l.most = some n) (hn2 : n ≤ sizeLine) (hdf : d.params.defaults = []) (hr : Room k callerA) (hY : ∀ (w : World) (h : Heap), YP w h → (K w.params).In h)
    (F : ∀ (w : World) (mg : Str → Option Value) (fa : Addr) (h : Heap), (K w.params).In h → h.Ns mainGlobals mg → mg d.name = some (.ref fa) →
      ∃ fd : FuncData, (∀ (s : Shared) (u : Value), BindsTo s fd ⟨[u], []⟩ [(x, u)]) ∧ ∀ base : Heap, (K w.params).In base → base.Ns mainGlobals mg → FnG l.prog w (K w.params) mg base (CX w) k fa fd [x] (sp w))
    (hsp : ∀ (w : World) (H : Hp) (a : Addr) (ns : List Int), ns.length ≤ n → Only H → SqL (K w.params) H a (ns.map V.int) → sp w [.ref a] H (fun v _ => v = .bl true) fun _ _ _ => False)
    (hCX : ∀ (w : World) (H : Hp) (s : Shared) (e : Value) (s' : Shared), CX w [] H s (fun _ _ _ => False) e s' → False) :
    PySem.W.WalkO q loose XP YP l.row.toRowW d [] (fun f vs => PySem.call f vs) :=
  Att.attach_call hn hdf fun w s₀ s₁ mg mb fa o pm cd doc a vs ns G Y ho hd hcd hmg hobj hints hlen hg =>
    let ⟨fd, hb, hF⟩ := F w mg fa _ (hY w _ Y) G.T.g hmg
    top_call (hY w _ Y) G.T.g G.T.b G.T.builtins G.T.nolimit hg hobj hints (Nat.le_trans hlen hn2) hr hF hb (fun H hO hS => hsp w H a ns hlen hO hS) fun H e s' => hCX w H s₁ e s'
end VM
/-! Functions: what a call computes, and that each def keeps it. -/
namespace VM
open PySem L2 PyProof.Rows

/-! ### 1. the end of a call -/
/-- the callee's own cells are dropped -/
def EV.out (v : EV) (n : Nat) (μ : Sto) : Option EV := match v with
  | .cel k => if k < n then some (.cel k) else match μ[k]? with
    | some c => match c.live with
      | true => some (.new c.val)
      | false => some (.dat c.val.toD)
    | none => none
  | v => some v
def callEnd (n : Nat) (r : Res SO) : Res EV := match r with
  | .ok (.nx _) μ => .ok (.dat .non) (μ.take n)
  | .ok (.rt v) μ => match v.out n μ with
    | some v' => .ok v' (μ.take n)
    | none => .bad
  | .ok _ _ => .bad
  | .exc x μ => .exc x (μ.take n)
  | .bad => .bad
def startE (n : Nat) (vs : List SV) : Env := vs.map some ++ List.replicate (n - vs.length) none
def callF (nl : Nat) (b : SS) (F : Fns) (vs : List SV) (μ : Sto) : Res EV := callEnd μ.length (b F (startE nl vs) μ)
/-- the functions: how many slots, the body -/
abbrev Tab := List (Nat × SS)
def run (T : Tab) : Nat → Fns
  | 0 => fun _ _ _ => .bad
  | n + 1 => fun i vs μ => match T[i]? with
    | some (nl, b) => callF nl b (run T n) vs μ
    | none => .bad
section
variable {K : PySem.W.Frag} {XC : Nat → Addr} {F : Fns} {W : WX} {Acc : Addr → Prop} {ι ι' : List Addr} {μ μ' : Sto} {H H' : Hp}
theorem Cel.take {n : Nat} {a : Addr} (h : Cel (μ'.take n) ι a) (e : ∀ (k : Nat) (b : Addr), k < n → ι[k]? = some b → ι'[k]? = some b) : Cel μ' ι' a := by
  obtain ⟨k, c, h1, h2, h3⟩ := h
  have hk : k < n := by
    have := (List.getElem?_eq_some_iff.mp h1).1
    rw [List.length_take] at this; omega
  exact ⟨k, c, by rw [List.getElem?_take_of_lt hk] at h1; exact h1, h2, e k a hk h3⟩
theorem Stp.cut (S : Sim K Acc μ ι H) (t : Stp K Acc ι μ H ι' μ' H') : Stp K Acc ι μ H ι (μ'.take μ.length) H' ∧ Mv (Liv Acc μ' ι') H' (Liv Acc (μ'.take μ.length) ι) H' := by
  obtain ⟨ex, e, nx⟩ := t.pre
  have hl : ι'.length = μ'.length := t.sim.len
  have hl2 : μ.length ≤ μ'.length := by rw [← hl, e, List.length_append, S.len]; omega
  have eq : ∀ (k : Nat), k < μ.length → ι'[k]? = ι[k]? := fun k hk => by rw [e, List.getElem?_append_left (by rw [S.len]; exact hk)]
  have c : ∀ a, Cel (μ'.take μ.length) ι a → Cel μ' ι' a := fun a h => h.take fun k b hk hb => by rw [eq k hk]; exact hb
  have m : Mv (Liv Acc μ' ι') H' (Liv Acc (μ'.take μ.length) ι) H' := fun a o h n => ⟨h, fun z => n (z.imp (c a) id)⟩
  refine ⟨⟨⟨by rw [List.length_take, S.len]; omega, S.nd, fun a h => ⟨(S.acc a h).1, t.trk a (S.acc a h).2⟩, fun k d h => ?_⟩, ⟨[], by simp, by simp⟩, t.keep, t.trk, fun a h => t.liv a (c a h)⟩, m⟩
  have hk : k < μ.length := by
    have := (List.getElem?_eq_some_iff.mp h).1
    rw [List.length_take] at this; omega
  rw [List.getElem?_take_of_lt hk] at h
  obtain ⟨a, e1, r⟩ := t.sim.cell k d h
  exact ⟨a, by rw [← eq k hk]; exact e1, r.mv m fun _ h => h⟩
/-- what the value is, behind the call -/
theorem out_ok (S : Sim K Acc μ ι H) (t : Stp K Acc ι μ H ι' μ' H') {v v' : EV} {u : V} (r : EvR K (Liv Acc μ' ι') ι' H H' v u) (o : OwnR K Acc μ' ι' H' v u) (h : v.out μ.length μ' = some v') :
    relE K Acc (μ'.take μ.length) ι H H' v' u := by
  obtain ⟨tc, m⟩ := t.cut S
  obtain ⟨ex, e, nx⟩ := t.pre
  have eq : ∀ (k : Nat), k < μ.length → ι'[k]? = ι[k]? := fun k hk => by rw [e, List.getElem?_append_left (by rw [S.len]; exact hk)]
  have hl : ι'.length = μ'.length := t.sim.len
  have c : ∀ a, Cel (μ'.take μ.length) ι a → Cel μ' ι' a := fun a h => h.take fun k b hk hb => by rw [eq k hk]; exact hb
  have pre : ∀ (k : Nat) (a : Addr), ι'[k]? = some a → ¬ k < μ.length → a ∈ ex := fun k a ha hk => by
    rw [e, List.getElem?_append_right (by rw [S.len]; omega)] at ha
    exact List.mem_of_getElem? ha
  cases v with
  | dat d => cases h; exact ⟨Rep.mv m _ _ r, trivial⟩
  | new c0 =>
    cases h
    obtain ⟨p, ep, np, rp⟩ := r
    subst ep
    refine ⟨⟨p, rfl, np, rp.mv m fun _ h => h⟩, fun q eq' => ?_⟩
    cases eq'
    obtain ⟨ow, rr⟩ := o p rfl
    have m3 : Mv (Liv (fun a => Acc a ∨ a = p) μ' ι') H' (Liv (fun a => Acc a ∨ a = p) (μ'.take μ.length) ι) H' := fun b o h n => ⟨h, fun z => n (z.imp (c b) id)⟩
    have pn : p ∉ ι' := (ow.acc p (.inr rfl)).1
    refine ⟨⟨tc.sim.len, tc.sim.nd, fun b hb => ?_, fun j d hj => ?_⟩, rr.mv m3 fun _ h => h⟩
    · rcases hb with hb | rfl
      · exact tc.sim.acc b hb
      · exact ⟨fun z => pn (by rw [e]; exact List.mem_append_left _ z), (ow.acc b (.inr rfl)).2⟩
    · have hj2 : j < μ.length := by
        have := (List.getElem?_eq_some_iff.mp hj).1
        rw [List.length_take] at this; omega
      rw [List.getElem?_take_of_lt hj2] at hj
      obtain ⟨b, e1, r⟩ := ow.cell j d hj
      exact ⟨b, by rw [← eq j hj2]; exact e1, r.mv m3 fun _ h => h⟩
  | cel k =>
    obtain ⟨a, ea, eu⟩ := r
    subst eu
    simp only [EV.out] at h
    by_cases hk : k < μ.length
    · rw [if_pos hk] at h
      cases h
      exact ⟨⟨a, by rw [← eq k hk]; exact ea, rfl⟩, trivial⟩
    · rw [if_neg hk] at h
      cases hc : μ'[k]? with
      | none => rw [hc] at h; cases h
      | some cc =>
        rw [hc] at h
        simp only at h
        obtain ⟨b, eb, rb⟩ := t.sim.cell k cc hc
        rw [ea] at eb; cases eb
        have na := nx a (pre k a ea hk)
        have nι : a ∉ ι := fun z => S.trk z na
        have nA : ¬ Acc a := fun z => (S.acc a z).2 na
        cases hlv : cc.live with
        | false =>
          rw [hlv] at h
          cases h
          refine ⟨(rb.mv m fun _ h => h).rep fun z => ?_, trivial⟩
          rcases z with z | z
          · exact nι z.mem
          · exact nA z
        | true =>
          rw [hlv] at h
          cases h
          have la : Cel μ' ι' a := ⟨k, cc, hc, hlv, ea⟩
          have m2 : Mv (Liv Acc μ' ι') H' (Liv (fun b => Acc b ∨ b = a) (μ'.take μ.length) ι) H' := fun b o h n => ⟨h, fun z => n (by
            rcases z with z | z | z
            · exact .inl (c b z)
            · exact .inr z
            · subst z; exact .inl la)⟩
          refine ⟨⟨a, rfl, na, rb.mv m fun _ h => h⟩, fun q eq' => ?_⟩
          cases eq'
          refine ⟨⟨tc.sim.len, tc.sim.nd, fun b hb => ?_, fun j d hj => ?_⟩, rb.mv m2 fun _ h => h⟩
          · rcases hb with hb | rfl
            · exact tc.sim.acc b hb
            · exact ⟨nι, rb.trk⟩
          · have hj2 : j < μ.length := by
              have := (List.getElem?_eq_some_iff.mp hj).1
              rw [List.length_take] at this; omega
            rw [List.getElem?_take_of_lt hj2] at hj
            obtain ⟨b, e1, r⟩ := t.sim.cell j d hj
            exact ⟨b, by rw [← eq j hj2]; exact e1, r.mv m2 fun _ h => h⟩
end

/-! ### 2. arguments -/
/-- what is handed over: a new object stands still from then on -/
def EV.arg : EV → SV
  | .dat d => .dat d
  | .cel k => .cel k
  | .new c => .dat c.toD
def SvsR (K : PySem.W.Frag) (L : Addr → Prop) (ι : List Addr) (H : Hp) : List SV → List V → Prop
  | [], vs => vs = []
  | s :: ss, vs => ∃ v r, vs = v :: r ∧ SvR K L ι H s v ∧ SvsR K L ι H ss r
section
variable {K : PySem.W.Frag} {L : Addr → Prop} {ι : List Addr} {H : Hp}
theorem SvsR.len : ∀ {ss : List SV} {vs : List V}, SvsR K L ι H ss vs → vs.length = ss.length
  | [], vs, h => by
    have h : vs = [] := h
    rw [h] <;> rfl
  | s :: ss, vs, h => by
    obtain ⟨v, r, rfl, _, h2⟩ := h
    rw [List.length_cons, List.length_cons, SvsR.len h2]
theorem SvsR.get : ∀ {ss : List SV} {vs : List V} {i : Nat} {s : SV}, SvsR K L ι H ss vs → ss[i]? = some s → ∃ v, vs[i]? = some v ∧ SvR K L ι H s v
  | [], vs, i, s, h, e => by simp at e
  | x :: ss, vs, 0, s, h, e => by
    obtain ⟨v, r, rfl, h1, _⟩ := h
    simp at e; subst e
    exact ⟨v, rfl, h1⟩
  | x :: ss, vs, i + 1, s, h, e => by
    obtain ⟨v, r, rfl, h1, h2⟩ := h
    obtain ⟨w, q1, q2⟩ := SvsR.get (i := i) h2 (by simpa using e)
    exact ⟨w, by simpa using q1, q2⟩
theorem start_ok {N : List Str} {ss : List SV} {vs : List V} (h : SvsR K L ι H ss vs) : EnvR K L ι H (startE N.length ss) (L2.start N vs) := by
  have hl := h.len
  unfold startE L2.start
  refine ⟨by simp [hl], fun i s e => ?_⟩
  by_cases hi : i < ss.length
  · rw [List.getElem?_append_left (by simpa using hi), List.getElem?_map] at e
    cases hs : ss[i]? with
    | none => rw [hs] at e; cases e
    | some t =>
      rw [hs] at e
      cases e
      obtain ⟨v, hv, r⟩ := h.get hs
      exact ⟨v, by rw [List.getElem?_append_left (by simpa [hl] using hi), List.getElem?_map, hv]; rfl, r⟩
  · rw [List.getElem?_append_right (by simpa using hi), List.getElem?_replicate] at e
    split at e <;> cases e
theorem args_ok {Acc : Addr → Prop} {μ : Sto} {Hb : Hp} (hb : ∀ a ∈ ι, Hb a ≠ none) (hq : ∀ a, Acc a → Hb a ≠ none) : ∀ {es : List EV} {vs : List V}, EvsR K (Liv Acc μ ι) ι Hb H es vs → SvsR K (Liv Acc μ ι) ι H (es.map EV.arg) vs
  | [], vs, h => h
  | e :: es, vs, h => by
    obtain ⟨v, r, rfl, h1, h2⟩ := h
    refine ⟨v, r, rfl, ?_, args_ok hb hq h2⟩
    cases e with
    | dat d => exact h1
    | cel k => exact h1
    | new c =>
      obtain ⟨p, rfl, n, rp⟩ := h1
      exact rp.rep fun z => z.elim (fun z => hb p z.mem n) fun z => hq p z n
end

/-! ### 3. the promise -/
/-- what a call of the i-th function gives -/
def spF (K : PySem.W.Frag) (XC : Nat → Addr) (F : Fns) (i np : Nat) : Sp := fun vs H Q _ => vs.length = np ∧
  ∃ (Acc : Addr → Prop) (ι : List Addr) (μ : Sto) (ss : List SV), Sim K Acc μ ι H ∧ SvsR K (Liv Acc μ ι) ι H ss vs ∧ wp (relE K) K XC W0 Acc ι μ H [] (F i ss μ) Q
/-- a function of the table: the name, the parameters -/
structure FnR (P : Program) (w : World) (K : PySem.W.Frag) (mg : Str → Option Value) (base : Heap) (XC : Nat → Addr) (F : Fns) (n : Nat) (i : Nat) (x : Str) (ps : List Str) (st : Stmt) : Prop where
  ex : ∃ (f : Addr) (fd : FuncData), Fun K x x st f fd ∧ mg x = some (.ref f) ∧ Binds K fd ps [] ∧ FnG P w K mg base CX0 n f fd ps (spF K XC F i ps.length)
theorem fn_rd {P : Program} {w : World} {K : PySem.W.Frag} {mg : Str → Option Value} {base : Heap} {XC : Nat → Addr} {T : Tab} {n i : Nat} {x : Str} {st : Stmt} {f : Addr} {fd : FuncData} {N ps : List Str} {b : SS} {nl : Nat} (F : Fun K x x st f fd) (S : FnScope N ps (defScope st)) (hT : T[i]? = some (nl, b)) (hn : N.length = nl)
    (hb : ∀ (cdv : Value) (A : Around) (outer : List PySem.Env) (s : Shared) (H : Hp) (E : XK), Room n (A.deeper (envOfC x (defScope st) s.heap.objs.size f cdv)) → A.guards = some [] →
      PSs (cxOf CX0 P w K mg base N x (defScope st) f cdv A outer s H E).nox (defBody st) (rdS K XC (run T n) W0 b)) :
    FnG P w K mg base CX0 (n + 1) f fd ps (spF K XC (run T (n + 1)) i ps.length) := by
  refine fnG_of F S (fun vs H Q E h => h.1) fun cdv A outer s H vs Q E hr hG ⟨hl, Acc, ι, μ, ss, S0, R, h⟩ => ?_
  refine ⟨_, (hb cdv A outer s H E hr hG).nox, Acc, ι, startE nl ss, μ, S0, by rw [← hn]; exact start_ok R, ?_⟩
  have h : wp (relE K) K XC W0 Acc ι μ H [] (callEnd μ.length (b (run T n) (startE nl ss) μ)) Q := by
    unfold run at h
    rw [hT] at h
    exact h
  cases e : b (run T n) (startE nl ss) μ with
  | bad => rw [e] at h; exact h
  | exc x μ' => rw [e] at h; exact fun ι' H' c d σ' t r => h c d H' (t.cut S0).1 ⟨r.1, by
      have r2 := r.2
      cases d with
      | none => exact r2
      | some d => exact ⟨r2.1, let ⟨vs, q1, q2⟩ := r2.2; ⟨vs, q1, Reps.mv (t.cut S0).2 _ _ q2⟩⟩⟩
  | ok o μ' =>
    rw [e] at h
    cases o with
    | bk _ => exact h.elim
    | ct _ => exact h.elim
    | nx ρ' => exact fun ι' H' σ' t E' => h .non H' (t.cut S0).1 ⟨rfl, trivial⟩
    | rt v =>
      intro ι' H' u t r o
      simp only [callEnd] at h
      cases ev : v.out μ.length μ' with
      | none => rw [ev] at h; exact h.elim
      | some v' =>
        rw [ev] at h
        exact h u H' (t.cut S0).1 (out_ok S0 t r o ev)
/-- with no calls left nothing is promised -/
theorem fn_zero {P : Program} {w : World} {K : PySem.W.Frag} {mg : Str → Option Value} {base : Heap} {XC : Nat → Addr} {T : Tab} {i : Nat} {f : Addr} {fd : FuncData} {ps : List Str} :
    FnG P w K mg base CX0 0 f fd ps (spF K XC (run T 0) i ps.length) :=
  ⟨fun vs H Q E h => h.1, fun A outer s H args us vs Q E _ _ _ _ _ ⟨_, _, _, _, _, _, _, h⟩ => h.elim⟩

/-! ### 4. calls -/
def eCall (i : Nat) (a : SA) : SE := fun F ρ μ => (a F ρ μ).bind fun vs μ1 => F i (vs.map EV.arg) μ1
section
variable {X : Cx} {XC : Nat → Addr} {F : Fns} {n i : Nat} {x : Str} {ps : List Str} {st : Stmt} {p pos : Pos} {e : Expr} {es : List Expr}
theorem call_rd {K : PySem.W.Frag} {fa : SA} {σ : L2.St} {H : Hp} {Q : VK} {np : Nat} (h : rdE K XC F W0 (eCall i fa) σ H Q) (hl : ∀ ρ μ vs μ', fa F ρ μ = .ok vs μ' → vs.length = np) : tCall (spF K XC F i np) [] E0 (rdA K XC F W0 fa) σ H Q := by
  obtain ⟨Acc, ι, ρ, μ, S, E, h⟩ := h
  refine rd.bind (Stp.refl S) E h fun vs μ1 xs H1 e1 t1 r1 h1 => ?_
  rw [List.append_nil]
  have hlx : xs.length = vs.length := by
    clear h1 e1
    induction vs generalizing xs with
    | nil =>
      have r1 : xs = [] := r1
      rw [r1] <;> rfl
    | cons v vs ih =>
      obtain ⟨y, r, rfl, _, h2⟩ := r1
      rw [List.length_cons, List.length_cons, ih r h2]
  have ra := args_ok (fun a h => S.trk h) (fun a h => (S.acc a h).2) r1
  refine ⟨by rw [hlx]; exact hl _ _ _ _ e1, Acc, ι, μ1, _, t1.sim, ra, ?_⟩
  replace h1 := wp.shift t1 h1
  cases hc : F i (vs.map EV.arg) μ1 with
  | bad => rw [hc] at h1; exact h1
  | exc x μ' => rw [hc] at h1; exact h1
  | ok v μ' => rw [hc] at h1; exact h1
theorem c_call {fs : List SE} (G : FnR X.prog X.w X.K X.mg X.base XC F n i x ps st) (hr : Room n X.A) (hG : X.A.guards = some []) (hg : Gl X x) (ha : PA X (e :: es) (rdA X.K XC F W0 (evs fs))) (hl : fs.length = ps.length := by rfl)
    (hdb : (x == ("__debug__" : Str)) = false := by decide) (he : starEach (e :: es) X.env = (false, eval e X.env) :: starEach es X.env := by rfl) (hpl : (backTo pos (starEach es X.env)).any (·.1) = false := by rfl) :
    PE X (.Call (.Name x p) (e :: es) [] pos) (rdE X.K XC F W0 (eCall i (evs fs))) := by
  obtain ⟨f, fd, FF, hm, hb, G⟩ := G.ex
  exact PEimp (pe_g (E := E0) G hr hG hg hm FF.kp hb .nil pass0 ha hdb he hpl) fun σ H Q h => call_rd h fun ρ μ vs μ' h => by rw [evs_len _ _ _ _ _ _ h, hl]
theorem c_call0 (G : FnR X.prog X.w X.K X.mg X.base XC F n i x [] st) (hr : Room n X.A) (hG : X.A.guards = some []) (hg : Gl X x) (hdb : (x == ("__debug__" : Str)) = false := by decide) :
    PE X (.Call (.Name x p) [] [] pos) (rdE X.K XC F W0 (eCall i (evs []))) := by
  obtain ⟨f, fd, FF, hm, hb, G⟩ := G.ex
  refine PEimp (pe_g0 (E := E0) G hr hG hg hm FF.kp hb .nil pass0 hdb) fun σ H Q h => ?_
  obtain ⟨Acc, ι, ρ, μ, S, E, h⟩ := h
  refine ⟨rfl, Acc, ι, μ, [], S, rfl, ?_⟩
  simp only [eCall, evs, Res.bind, List.map_nil] at h
  cases hc : F i [] μ with
  | bad => rw [hc] at h; exact h
  | exc x μ' => rw [hc] at h; exact h
  | ok v μ' => rw [hc] at h; exact h
end

/-! ### 5. keywords -/
def gP {α : Type} (nu nk : Nat) (perm : List Nat) (us ws : List α) : List α := if us.length = nu ∧ ws.length = nk then perm.filterMap fun i => (us ++ ws)[i]? else []
theorem vals_pick {vs : List V} {us : List Value} (h : Vals vs us) : ∀ perm : List Nat, Vals (perm.filterMap fun i => vs[i]?) (perm.filterMap fun i => us[i]?)
  | [] => .nil
  | i :: perm => by
    rw [List.filterMap_cons, List.filterMap_cons]
    cases e : vs[i]? with
    | some v =>
      obtain ⟨u, hu, r⟩ := h.get e
      rw [hu]
      exact .cons r (vals_pick h perm)
    | none =>
      have : us[i]? = none := by
        rw [List.getElem?_eq_none_iff] at e ⊢
        rw [← h.length]; exact e
      rw [this]
      exact vals_pick h perm
theorem Fun.kbinds {K : PySem.W.Frag} {x qual : Str} {st : Stmt} {f : Addr} {fd : FuncData} {ps ks : List Str} (F : Fun K x qual st f fd) (nu nk : Nat) (perm : List Nat) (hp : ps.isEmpty = false)
    (h : ∀ (kV doc pm : Value) (an : Option Addr) (cdv ct : Value) (us ws : List Value), us.length = nu → ws.length = nk → bindArgs (PySem.W.fnOf x qual (defArgs st) (defBody st) (defScope st) .none kV doc pm an cdv ct) ⟨us, ks.zip ws⟩ = pure (ps.zip (perm.filterMap fun i => (us ++ ws)[i]?))) :
    KBinds K fd ps ks (gP nu nk perm) (gP nu nk perm) := by
  obtain ⟨oc, od, kV, doc, pm, an, cdv, ct, osl, rfl, lk, hcd⟩ := F.ex
  refine ⟨fun s us ws _ hl => ?_, fun {vs us zs ws} r rz => ?_⟩
  · unfold gP at hl ⊢
    by_cases c : us.length = nu ∧ ws.length = nk
    · rw [if_pos c]
      exact .of_eq (h kV doc pm an cdv ct us ws c.1 c.2)
    · rw [if_neg c] at hl
      cases ps with
      | nil => cases hp
      | cons _ _ => cases hl
  · unfold gP
    rw [r.length, rz.length]
    by_cases c : us.length = nu ∧ ws.length = nk
    · rw [if_pos c, if_pos c]
      exact vals_pick (r.append rz) perm
    · rw [if_neg c, if_neg c]
      exact .nil
def eCallK (i : Nat) (a k : SA) (perm : List Nat) : SE := fun F ρ μ => (a F ρ μ).bind fun vs μ1 => (k F ρ μ1).bind fun zs μ2 => F i ((perm.filterMap fun i => (vs ++ zs)[i]?).map EV.arg) μ2
theorem EvsR.app {K : PySem.W.Frag} {L : Addr → Prop} {ι : List Addr} {H0 H : Hp} : ∀ {es fs : List EV} {vs ws : List V}, EvsR K L ι H0 H es vs → EvsR K L ι H0 H fs ws → EvsR K L ι H0 H (es ++ fs) (vs ++ ws)
  | [], fs, vs, ws, h, g => by
    have h : vs = [] := h
    subst h; exact g
  | e :: es, fs, vs, ws, h, g => by
    obtain ⟨v, r, rfl, h1, h2⟩ := h
    exact ⟨v, r ++ ws, rfl, h1, EvsR.app h2 g⟩
theorem EvsR.len {K : PySem.W.Frag} {L : Addr → Prop} {ι : List Addr} {H0 H : Hp} : ∀ {es : List EV} {vs : List V}, EvsR K L ι H0 H es vs → vs.length = es.length
  | [], vs, h => by
    have h : vs = [] := h
    subst h; rfl
  | e :: es, vs, h => by
    obtain ⟨v, r, rfl, h1, h2⟩ := h
    rw [List.length_cons, List.length_cons, EvsR.len h2]
theorem EvsR.get {K : PySem.W.Frag} {L : Addr → Prop} {ι : List Addr} {H0 H : Hp} : ∀ {es : List EV} {vs : List V} {i : Nat} {e : EV}, EvsR K L ι H0 H es vs → es[i]? = some e → ∃ v, vs[i]? = some v ∧ EvR K L ι H0 H e v
  | [], vs, i, e, h, q => by simp at q
  | x :: es, vs, 0, e, h, q => by
    obtain ⟨v, r, rfl, h1, h2⟩ := h
    simp at q; subst q
    exact ⟨v, rfl, h1⟩
  | x :: es, vs, i + 1, e, h, q => by
    obtain ⟨v, r, rfl, h1, h2⟩ := h
    obtain ⟨w, q1, q2⟩ := EvsR.get (i := i) h2 (by simpa using q)
    exact ⟨w, by simpa using q1, q2⟩
theorem EvsR.pick {K : PySem.W.Frag} {L : Addr → Prop} {ι : List Addr} {H0 H : Hp} {es : List EV} {vs : List V} (h : EvsR K L ι H0 H es vs) : ∀ perm : List Nat, EvsR K L ι H0 H (perm.filterMap fun i => es[i]?) (perm.filterMap fun i => vs[i]?)
  | [] => rfl
  | i :: perm => by
    rw [List.filterMap_cons, List.filterMap_cons]
    cases e : es[i]? with
    | some v =>
      obtain ⟨u, hu, r⟩ := h.get e
      rw [hu]
      exact ⟨u, _, rfl, r, EvsR.pick h perm⟩
    | none =>
      have : vs[i]? = none := by
        rw [List.getElem?_eq_none_iff] at e ⊢
        rw [h.len]; exact e
      rw [this]
      exact EvsR.pick h perm
theorem callK_rd {K : PySem.W.Frag} {XC : Nat → Addr} {F : Fns} {i : Nat} {fa fk : SA} {σ : L2.St} {H : Hp} {Q : VK} {nu nk np : Nat} {perm : List Nat} (h : rdE K XC F W0 (eCallK i fa fk perm) σ H Q) (hl : ∀ ρ μ vs μ', fa F ρ μ = .ok vs μ' → vs.length = nu) (hk : ∀ ρ μ vs μ', fk F ρ μ = .ok vs μ' → vs.length = nk)
    (hp : perm.length = np) (hb : ∀ i ∈ perm, i < nu + nk) : tCallK (spF K XC F i np) (gP nu nk perm) E0 (rdA K XC F W0 fa) (rdA K XC F W0 fk) σ H Q := by
  obtain ⟨Acc, ι, ρ, μ, S, E, h⟩ := h
  refine rd.bind (Stp.refl S) E h fun vs μ1 xs H1 e1 t1 r1 h1 => ?_
  refine rd.bind t1 (E.mv t1 S) h1 fun zs μ2 ys H2 e2 t2 r2 h2 => ?_
  have t12 := t1.trans t2
  have r12 := (EvsR.mv t1 S t2 r1).app (EvsR.back t1 r2)
  have l1 : xs.length = nu := by rw [r1.len]; exact hl _ _ _ _ e1
  have l2 : ys.length = nk := by rw [r2.len]; exact hk _ _ _ _ e2
  have eg : gP nu nk perm xs ys = perm.filterMap fun i => (xs ++ ys)[i]? := if_pos ⟨l1, l2⟩
  rw [eg]
  have ra := args_ok (fun a h => S.trk h) (fun a h => (S.acc a h).2) (r12.pick perm)
  have len : ∀ perm : List Nat, (∀ i ∈ perm, i < nu + nk) → (perm.filterMap fun i => (xs ++ ys)[i]?).length = perm.length := by
    intro perm
    induction perm with
    | nil => intro _; rfl
    | cons j perm ih =>
      intro hb
      have hj := hb j List.mem_cons_self
      have : j < (xs ++ ys).length := by rw [List.length_append]; omega
      rw [List.filterMap_cons, List.getElem?_eq_getElem this, List.length_cons, List.length_cons, ih fun i hi => hb i (List.mem_cons_of_mem _ hi)]
  refine ⟨by rw [len perm hb, hp], Acc, ι, μ2, _, t2.sim, ra, ?_⟩
  replace h2 := wp.shift t12 h2
  cases hc : F i ((perm.filterMap fun i => (vs ++ zs)[i]?).map EV.arg) μ2 with
  | bad => rw [hc] at h2; exact h2
  | exc x μ' => rw [hc] at h2; exact h2
  | ok v μ' => rw [hc] at h2; exact h2
theorem PKimp {X : Cx} {k : List Keyword} {t t' : TA} (h : PK X k t) (i : ∀ σ H Q, t' σ H Q → t σ H Q) : PK X k t' := ⟨fun pos pins s σ H Q I q => h.run pos pins s σ H Q I (i σ H Q q)⟩
section
variable {X : Cx} {XC : Nat → Addr} {F : Fns} {W : WX} {n i : Nat} {x : Str} {ps ks : List Str} {st : Stmt} {p pos kpos : Pos} {e : Expr} {es : List Expr} {kws : List Keyword} {nm : Option Str} {fe : SE} {fs fk : List SE}
theorem ck_nil : PK X [] (rdA X.K XC F W (evs [])) := PKimp pk_nil fun σ H Q ⟨Acc, ι, ρ, μ, S, E, h⟩ => h [] H (.refl S) rfl
theorem ck_cons (ha : PE X e (rdE X.K XC F W fe)) (hr : PK X kws (rdA X.K XC F W (evs fs))) : PK X (⟨nm, e, kpos⟩ :: kws) (rdA X.K XC F W (evs (fe :: fs))) :=
  PKimp (pk_cons ha hr) fun σ H Q ⟨Acc, ι, ρ, μ, S, E, h⟩ => by
    refine rd.bind (.refl S) E h fun v μ1 x H1 _ t1 r1 h1 => ?_
    refine rd.bind t1 (E.mv t1 S) h1 fun vs μ2 xs H2 _ t2 r2 h2 => ?_
    exact h2 (x :: xs) H2 (t1.trans t2) ⟨x, xs, rfl, EvR.mv t1 S t2 r1.1 rfl, EvsR.back t1 r2⟩
theorem c_callK (G : FnR X.prog X.w X.K X.mg X.base XC F n i x ps st) (nu nk : Nat) (perm : List Nat) (hr : Room n X.A) (hG : X.A.guards = some []) (hg : Gl X x)
    (kb : ∀ (f : Addr) (fd : FuncData), Fun X.K x x st f fd → KBinds X.K fd ps ks (gP nu nk perm) (gP nu nk perm)) (ha : PA X (e :: es) (rdA X.K XC F W0 (evs fs))) (hkw : PK X kws (rdA X.K XC F W0 (evs fk)))
    (hl : fs.length = nu := by rfl) (hk : fk.length = nk := by rfl) (hp : perm.length = ps.length := by rfl) (hbd : ∀ i ∈ perm, i < nu + nk := by decide)
    (hall : (backToKw pos (keywordEach kws X.env)).all (·.1.isSome) = true := by rfl) (hks : (backToKw pos (keywordEach kws X.env)).filterMap (·.1) = ks := by rfl)
    (hdb : (x == ("__debug__" : Str)) = false := by decide) (he : starEach (e :: es) X.env = (false, eval e X.env) :: starEach es X.env := by rfl)
    (hpl : ((backTo pos (starEach (e :: es) X.env)).any (·.1) || (backToKw pos (keywordEach kws X.env)).any (·.1.isNone)) = false := by rfl) :
    PE X (.Call (.Name x p) (e :: es) kws pos) (rdE X.K XC F W0 (eCallK i (evs fs) (evs fk) perm)) := by
  obtain ⟨f, fd, FF, hm, hb, G⟩ := G.ex
  exact PEimp (pe_gK (E := E0) G hr hG hg hm FF.kp (kb f fd FF) pass0 ha hkw hall hks hdb he hpl) fun σ H Q h => callK_rd h (fun ρ μ vs μ' h => by rw [evs_len _ _ _ _ _ _ h, hl]) (fun ρ μ vs μ' h => by rw [evs_len _ _ _ _ _ _ h, hk]) hp hbd
theorem c_callKz (G : FnR X.prog X.w X.K X.mg X.base XC F n i x ps st) (nk : Nat) (perm : List Nat) (hr : Room n X.A) (hG : X.A.guards = some []) (hg : Gl X x)
    (kb : ∀ (f : Addr) (fd : FuncData), Fun X.K x x st f fd → KBinds X.K fd ps ks (gP 0 nk perm) (gP 0 nk perm)) (hkw : PK X kws (rdA X.K XC F W0 (evs fk)))
    (hk : fk.length = nk := by rfl) (hp : perm.length = ps.length := by rfl) (hbd : ∀ i ∈ perm, i < 0 + nk := by decide)
    (hall : (backToKw pos (keywordEach kws X.env)).all (·.1.isSome) = true := by rfl) (hks : (backToKw pos (keywordEach kws X.env)).filterMap (·.1) = ks := by rfl)
    (hdb : (x == ("__debug__" : Str)) = false := by decide) (hpl : ((backTo pos (starEach [] X.env)).any (·.1) || (backToKw pos (keywordEach kws X.env)).any (·.1.isNone)) = false := by rfl) :
    PE X (.Call (.Name x p) [] kws pos) (rdE X.K XC F W0 (eCallK i (evs []) (evs fk) perm)) := by
  obtain ⟨f, fd, FF, hm, hb, G⟩ := G.ex
  refine PEimp (pe_gKz (E := E0) G hr hG hg hm FF.kp (kb f fd FF) pass0 hkw hall hks hdb hpl) fun σ H Q h => ?_
  have z := callK_rd (nu := 0) h (fun ρ μ vs μ' h => by cases h; rfl) (fun ρ μ vs μ' h => by rw [evs_len _ _ _ _ _ _ h, hk]) hp hbd
  obtain ⟨Acc, ι, ρ, μ, S, E, hz⟩ := z
  exact hz [] H (.refl S) rfl
end
end VM
/-! enumerate over a tuple: the machine's side. -/
namespace PySem
open Sem (wp)
set_option maxHeartbeats 1000000 in
theorem vm_enumNew {v : Value} {o : Obj} {H : Heap → Prop} (B : Begins v o H) :
    Meets (Builtin.«enumerate.__new__» ⟨[.type "enumerate", v], []⟩) (fun _ R s => H s.heap ∧
      R (.ok (.ret (.ref (s.heap.push o).objs.size))) { s with heap := (s.heap.push o).push { cls := .type "enumerate", data := .fields #[.none, .bool false, .ref s.heap.objs.size, rawInt 0, .none, .none] } }) := by
  refine .of_wp fun prog w A R s h => ?_
  obtain ⟨hp, g, d, tk, os⟩ := s
  obtain ⟨h1, h⟩ := h
  have hsub := sub_enumerate
  have q1 : ∀ {A' : Around} {E : Value → Shared → Prop} {Q : Value → Shared → Prop}, Q (.ref hp.objs.size) ⟨hp.push o, g, d, tk, os⟩ → wpAny (model prog w) A' (pyIter v) Q E ⟨hp, g, d, tk, os⟩ := fun q => B.iter prog w _ _ ⟨hp, g, d, tk, os⟩ _ h1 q
  wp_walk using q1
  refine wpAny_stack_any fun st => wpAny_pure ?_
  split
  · rename_i c _ _ _ _ _
    cases (c == Value.type "enumerate")
    · wp_walk using q1
      exact ⟨_, rfl, h⟩
    · wp_walk using q1
      exact ⟨_, rfl, h⟩
  · wp_walk using q1
    exact ⟨_, rfl, h⟩
theorem vm_enumCall {prog : Program} {w : World} {A : Around} {E : Value → Shared → Prop} {s : Shared} {v : Value} {o : Obj} {H : Heap → Prop} {Q : Value → Shared → Prop} (B : Begins v o H) (h1 : H s.heap)
    (h : ∀ h', IsEnum h' (s.heap.objs.size + 1) s.heap.objs.size 0 .none → h'.get? s.heap.objs.size = some o → (∀ b o, s.heap.get? b = some o → h'.get? b = some o) → Q (.ref (s.heap.objs.size + 1)) { s with heap := h' }) :
    wpAny (model prog w) A (call (.type "enumerate") [v]) Q E s := by
  refine callType_new F.called_enumerate (by decide) (F.typeCall_enumerate_1 _) (F.newCall_enumerate_1 _) (fun obj => F.args_object_init_2 obj _) F.entry_enumerate_new (vm_enumNew B) ⟨h1, ?_⟩
  have hz : (s.heap.push o).objs.size = s.heap.objs.size + 1 := Heap.size_push ..
  show _ ∧ _
  rw [hz]
  have he : IsEnum ((s.heap.push o).push { cls := .type "enumerate", data := .fields #[.none, .bool false, .ref s.heap.objs.size, rawInt 0, .none, .none] }) (s.heap.objs.size + 1) s.heap.objs.size 0 .none := by
    have := Heap.get?_push_size (s.heap.push o) (o := { cls := .type "enumerate", data := .fields #[.none, .bool false, .ref s.heap.objs.size, rawInt 0, .none, .none] }) rfl
    rw [hz] at this
    exact this
  exact ⟨⟨_, he, rfl⟩, h _ he (Heap.get?_push_of_some _ (Heap.get?_push_size _ B.free)) fun b o x => Heap.get?_push_of_some _ (Heap.get?_push_of_some _ x)⟩
end PySem
namespace VM
open PySem L2 PyProof.Rows
/-- the tuple at a, each item in a new pair -/
def Itet (K : PySem.W.Frag) (a : Addr) : It :=
  ⟨fun i H => ∃ (xs : List V) (x : V), SqT K H a xs ∧ xs[i]? = some x, fun i H v H' => ∃ T x, v = .ref T ∧ H T = none ∧ H' = upd H T (.tup [.int (i : Nat), x]) ∧ ∀ xs, SqT K H a xs → xs[i]? = some x, fun i H => ∃ xs : List V, SqT K H a xs ∧ xs.length ≤ i⟩
theorem turn_enumT {P : Program} {w : World} {K : PySem.W.Frag} {elts : List Expr} {kk : Nat} {tpos : Pos} (a e it : Addr) :
    Turn P w K (.Tuple elts kk tpos) (Itet K a) [e, it] e (fun i h => (∃ old, IsEnum h e it ((i : Nat) : Int) old) ∧ h.IsTupleIter it a i ∧ e ≠ it) where
  mem := by simp
  obj := fun i h st b hb => by
    obtain ⟨⟨old, he⟩, ⟨o, ho, hc, hd⟩, _⟩ := st
    have e' : b = e ∨ b = it := by simpa using hb
    rcases e' with z | z
    · rw [z]; exact ⟨_, he, fun v q => nomatch q⟩
    · rw [z]; exact ⟨o, ho, fun v q => by rw [hd] at q; cases q⟩
  keep := fun i h h' st k => let ⟨⟨old, he⟩, hi, hne⟩ := st; ⟨⟨old, k e (by simp) _ he⟩, hi.at fun o q => k it (by simp) o q, hne⟩
  item := by
    intro X hP hw hK hc i pins s σ H E I hf st hg
    subst hP hw hK
    obtain ⟨⟨old, he⟩, hit, hne⟩ := st
    obtain ⟨xs, x, hq, hx⟩ := hg
    obtain ⟨its, rv, p, hz⟩ := I.tuple hq
    have p : s.heap.IsTuple a its.toArray := p
    obtain ⟨u, hu, ru⟩ := rv.get hx
    have hel : e < s.heap.objs.size := Heap.lt_size he
    have hil : it < s.heap.objs.size := by obtain ⟨_, q, _⟩ := hit; exact Heap.lt_size q
    have hai : a ≠ it := by
      rintro rfl
      obtain ⟨o1, q1, c1, _⟩ := hit
      obtain ⟨o2, q2, c2, _⟩ := p
      rw [q1] at q2; cases q2
      rw [c1] at c2; exact absurd (Value.type.inj c2) (by decide)
    have hea : e ∉ [it, a] := by
      intro z
      rcases List.mem_cons.mp z with z | z
      · exact hne z
      · have z : e = a := by simpa using z
        subst z
        obtain ⟨o2, q2, c2, _⟩ := p
        rw [he] at q2; cases q2
        exact absurd (Value.type.inj c2) (by decide)
    have hl := rv.length
    have hi : i < its.toArray.size := by
      have := (List.getElem?_eq_some_iff.mp hu).1
      simpa using this
    refine wpAny_pyNext_enum_itemD (Draws.tuple (A := X.A.in1) (I.ok.hd hc) it a hai its.toArray) he ⟨hit, p⟩ hi hne hea fun x' h' tk hP ho st' hT hsz hk => ?_
    have ex : x' = u := by
      have h1 : its.toArray[i]? = some u := by simpa using hu
      rw [h1] at hP
      exact (Option.some.inj hP).symm
    subst ex
    refine ⟨_, rfl, wpAny_letOwnedTupleGo_enum (s := { s with heap := h', toks := tk + 1 }) ho fun h'' he' sb => ?_⟩
    have hT2 : h''.get? s.heap.objs.size = some { cls := .type "tuple", data := .seq #[.int i tk, x'] } := (sb.2 _ (Nat.ne_of_gt hel)).trans hT
    have new : ObjOk X.prog X.w (upd H s.heap.objs.size (.tup [.int (i : Nat), x])) h'' s.heap.objs.size (.tup [.int (i : Nat), x]) :=
      ⟨by show 2 ≤ sizeLine; decide, [.int i tk, x'], .cons ⟨_, rfl⟩ (.cons ru .nil), ⟨_, hT2, rfl, _, rfl⟩⟩
    have I1 : Inv X pins σ (upd H s.heap.objs.size (.tup [.int (i : Nat), x])) { s with heap := h'', toks := tk + 1 } :=
      I.turnedNew (ch := [e, it]) (fun b ob hb q => (sb.2 b (fun z => hb (by simp [z]))).trans (hk b ob (fun z => hb (by simp [z])) (fun z => hb (by simp [z])) q)) hf (Nat.le_refl _) new
    refine ⟨.ref s.heap.objs.size, _, I1, rfl, ⟨_, x, rfl, I.hok.fresh (Nat.le_refl _), rfl, fun ys hy => by rw [I.tuple_inj hy hq]; exact hx⟩, ⟨⟨x', ?_⟩, st'.1.at fun o q => (sb.2 it (Ne.symm hne)).trans q, hne⟩, fun b hb => ?_⟩
    · have e1 : ((i + 1 : Nat) : Int) = (i : Int) + 1 := by omega
      rw [e1]; exact he'
    · have hb' : b < s.heap.objs.size := by
        have e' : b = e ∨ b = it := by simpa using hb
        rcases e' with z | z
        · rw [z]; exact hel
        · rw [z]; exact hil
      rw [upd_ne (Nat.ne_of_lt hb')]
      exact (hf b hb).1
  done := by
    intro X hP hw hK hc i pins s σ H E I hf st hg
    subst hP hw hK
    obtain ⟨⟨old, he⟩, hit, hne⟩ := st
    obtain ⟨xs, hq, hx⟩ := hg
    obtain ⟨its, rv, p, hz⟩ := I.tuple hq
    have p : s.heap.IsTuple a its.toArray := p
    obtain ⟨f0, f1, f2, f3, f4, f5⟩ := hf it (by simp)
    have hl := rv.length
    have hai : a ≠ it := by
      rintro rfl
      obtain ⟨o1, q1, c1, _⟩ := hit
      obtain ⟨o2, q2, c2, _⟩ := p
      rw [q1] at q2; cases q2
      rw [c1] at c2; exact absurd (Value.type.inj c2) (by decide)
    have D : Draws X.prog X.w X.A.in1 it [it, a] i (fun _ _ => True) (fun j h => j = i ∧ h.IsTupleIter it a i ∧ h.IsTuple a its.toArray) :=
      { live := fun _ _ st => let ⟨_, ⟨o, ho, _⟩, _⟩ := st; ⟨o, ho⟩
        frame := fun _ _ _ st hk => ⟨st.1, st.2.1.at fun o e => hk it (by simp) o e, st.2.2.at fun o e => hk a (by simp) o e⟩
        item := fun j s Q E hj st _ => absurd st.1 (Nat.ne_of_lt hj)
        done := fun s Q E st hE => wpAny_nextOf_tuple_end (A := X.A.in1) (I.ok.hd hc) st.2.1 st.2.2 (by simp; omega) hE }
    exact wpAny_pyNext_enum_endD D he ⟨rfl, hit, p⟩ fun h' eb => ⟨rfl, I.turned (t' := s.toks) (fun b o hb q => eb b o hb q) f0 f1 f3 f4 f5⟩
  self := fun A i s Q E st h => let ⟨⟨_, he⟩, _⟩ := st; wpAny_pyIter_enum he h

def iEnumT (K : PySem.W.Frag) (ta : TA) : TI := fun σ H R => ta σ H fun vs H1 => ∃ a xs, vs = [.ref a] ∧ SqT K H1 a xs ∧ R (Itet K a) H1
theorem pi_enumT {X : Cx} {e : Expr} {ta : TA} {p pos tpos : Pos} {elts : List Expr} {kk : Nat} (hg : Gl X "enumerate") (hm : X.mg "enumerate" = none) (ha : PA X [e] ta) (hs : starEach [e] X.env = [(false, eval e X.env)] := by rfl) :
    PI X (.Tuple elts kk tpos) (.Call (.Name "enumerate" p) [e] [] pos) (iEnumT X.K ta) := by
  refine ⟨fun pins s σ H R I h => ?_⟩
  refine Call_ (ld_blt I hg hm boot_enumerate (PyProof.Rows.callWith_type1 (thn (ha.run pos pins s σ H _ I h) fun us s1 ⟨vs, H1, I1, r1, q1⟩ => ?_) hs rfl))
  obtain ⟨a, xs, ex, hq, q⟩ := q1
  subst ex
  cases r1 with
  | cons r rr =>
    cases rr
    cases r
    obtain ⟨its, rv, p', hz⟩ := I1.tuple hq
    refine vm_enumCall (begins_tuple a its.toArray) p' fun h' he hit hk => wpAny_pyIter_enum he ?_
    have I2 : Inv X pins σ H1 { s1 with heap := h' } := I1.kept (t' := s1.toks) hk
    refine ⟨s1.heap.objs.size + 1, [s1.heap.objs.size + 1, s1.heap.objs.size], _, _, H1, rfl, I2, turn_enumT a (s1.heap.objs.size + 1) s1.heap.objs.size, ⟨⟨.none, he⟩, ⟨_, hit, rfl, rfl⟩, Nat.succ_ne_self _⟩, fun b hb => ?_, q⟩
    have e' : b = s1.heap.objs.size + 1 ∨ b = s1.heap.objs.size := by simpa using hb
    have hle : s1.heap.objs.size ≤ b := by
      rcases e' with z | z
      · rw [z]; exact Nat.le_add_right _ _
      · rw [z]; exact Nat.le_refl _
    exact I1.fpOk hle (I1.hok.fresh hle)
/-- either, by what it is -/
theorem pi_or {X : Cx} {tg e : Expr} {t t' : TI} (h : PI X tg e t) (h' : PI X tg e t') : PI X tg e (fun σ H R => t σ H R ∨ t' σ H R) := ⟨fun pins s σ H R I q => q.elim (fun q => h.run pins s σ H R I q) fun q => h'.run pins s σ H R I q⟩
end VM
/-! enumerate, dicts, comprehensions: the rules. -/
namespace VM
open PySem L2 PyProof.Rows
def Src.enum : Src → Src
  | .vals ds => .vals (enumD ds)
  | .cell k => .ecell k
  | .ecell k => .ecell k
def Src.plain : Src → Bool
  | .ecell _ => false
  | _ => true
theorem enumD_len {ds : List D} : (enumD ds).length = ds.length := by unfold enumD; simp
theorem enumD_get {ds : List D} {i : Nat} : (enumD ds)[i]? = (ds[i]?).map fun d => .tup [.int (i : Nat), d] := by
  unfold enumD
  rw [List.getElem?_map, List.getElem?_zipIdx]
  cases ds[i]? with
  | none => rfl
  | some d => simp
theorem enum_at {s : Src} {μ : Sto} (h : s.plain = true) : s.enum.at μ = (s.at μ).map enumD := by
  cases s with
  | vals ds => rfl
  | ecell k => cases h
  | cell k =>
    simp only [Src.enum, Src.at]
    cases μ[k]? with
    | none => rfl
    | some c =>
      cases hv : c.val <;> simp [hv]
section
variable {K : PySem.W.Frag} {Acc : Addr → Prop} {ι : List Addr} {μ : Sto} {H : Hp}
theorem jr_enumL {a : Addr} {s : Src} (hs : s.plain = true) (h : JR K (Itl K a) s Acc ι μ H) : JR K (Ite K a) s.enum Acc ι μ H := by
  intro Acc' ι' μ' H' S m pr es he i
  rw [enum_at hs] at he
  cases e0 : s.at μ' with
  | none => rw [e0] at he; cases he
  | some ds =>
    rw [e0] at he
    cases he
    have j := h Acc' ι' μ' H' S m pr ds e0 i
    rw [enumD_get, enumD_len]
    refine ⟨fun d hd => ?_, j.2⟩
    cases hd0 : ds[i]? with
    | none => rw [hd0] at hd; cases hd
    | some d0 =>
      rw [hd0] at hd
      cases hd
      obtain ⟨jg, jy⟩ := j.1 d0 hd0
      refine ⟨jg, fun v H'' y => ?_⟩
      obtain ⟨T, x, rfl, nT, rfl, hx⟩ := y
      obtain ⟨_, r⟩ := jy x H' ⟨rfl, hx⟩
      exact ⟨S.up nT _, S.newT nT (Reps.cons rep_int (Reps.cons r Reps.nil))⟩
theorem jr_enumT {a : Addr} {s : Src} (hs : s.plain = true) (h : JR K (Itt K a) s Acc ι μ H) : JR K (Itet K a) s.enum Acc ι μ H := by
  intro Acc' ι' μ' H' S m pr es he i
  rw [enum_at hs] at he
  cases e0 : s.at μ' with
  | none => rw [e0] at he; cases he
  | some ds =>
    rw [e0] at he
    cases he
    have j := h Acc' ι' μ' H' S m pr ds e0 i
    rw [enumD_get, enumD_len]
    refine ⟨fun d hd => ?_, j.2⟩
    cases hd0 : ds[i]? with
    | none => rw [hd0] at hd; cases hd
    | some d0 =>
      rw [hd0] at hd
      cases hd
      obtain ⟨jg, jy⟩ := j.1 d0 hd0
      refine ⟨jg, fun v H'' y => ?_⟩
      obtain ⟨T, x, rfl, nT, rfl, hx⟩ := y
      obtain ⟨_, r⟩ := jy x H' ⟨rfl, hx⟩
      exact ⟨S.up nT _, S.newT nT (Reps.cons rep_int (Reps.cons r Reps.nil))⟩
end
def isTx : EV → Bool
  | .dat (.str _) => true
  | _ => false
def iEnm (f : SE) : SI := fun F ρ μ => (f F ρ μ).bind fun v μ1 => match isTx v, srcOf v μ1 with
  | false, some s => .ok s.enum μ1
  | _, _ => .bad
section
variable {X : Cx} {XC : Nat → Addr} {F : Fns} {W : WX} {tg e a b c : Expr} {fe : SE} {fa : SA} {pos p tpos : Pos} {elts : List Expr} {kk : Nat}
theorem src_plain {v : EV} {μ : Sto} {s : Src} (h : srcOf v μ = some s) : s.plain = true := by
  unfold srcOf at h
  split at h <;> first | (cases h; rfl) | skip
  · split at h
    · split at h
      · cases h; rfl
      · cases h
    · cases h
  · cases h
theorem src_jr {K : PySem.W.Frag} {Acc : Addr → Prop} {ι : List Addr} {μ μ1 : Sto} {H H1 : Hp} {v : EV} {u : V} {s : Src} (S : Sim K Acc μ ι H) (t1 : Stp K Acc ι μ H ι μ1 H1) (r1 : EvR K (Liv Acc μ1 ι) ι H H1 v u) (es : srcOf v μ1 = some s) :
    (∃ a, u = .ref a ∧ (∃ xs, SqL K H1 a xs) ∧ JR K (Itl K a) s Acc ι μ1 H1) ∨ (∃ a, u = .ref a ∧ (∃ xs, SqT K H1 a xs) ∧ JR K (Itt K a) s Acc ι μ1 H1) ∨ isTx v = true := by
  unfold srcOf at es
  split at es
  · cases es
    rename_i ds
    obtain ⟨a, vs, rfl, tp, rp⟩ := (by simpa only [EvR, Rep] using r1 : ∃ a vs, u = .ref a ∧ TupN K _ H1 a vs ∧ Reps K _ H1 ds vs)
    exact .inr (.inl ⟨a, rfl, ⟨vs, tp.sq⟩, jr_tup tp rp⟩)
  · cases es
    rename_i ds
    obtain ⟨a, vs, rfl, tp, n, rp⟩ := (by simpa only [EvR, Rep] using r1 : ∃ a vs, u = .ref a ∧ H1 a = some (.lst vs) ∧ ¬ Liv Acc μ1 ι a ∧ Reps K _ H1 ds vs)
    exact .inl ⟨a, rfl, ⟨vs, SqL.of tp⟩, jr_still (.inl ⟨.inl tp, n⟩) rp⟩
  · cases es
    rename_i ns
    obtain ⟨a, rfl, tp⟩ := (by simpa only [EvR, Rep] using r1 : ∃ a, u = .ref a ∧ LstN K _ H1 a (ns.map V.int))
    exact .inl ⟨a, rfl, ⟨_, tp.sq⟩, jr_still tp (Reps.ints ns)⟩
  · exact .inr (.inr rfl)
  · cases es
    rename_i ds
    obtain ⟨p, rfl, n, vs, hv, rp⟩ := r1
    have nl : ¬ Liv Acc μ1 ι p := fun z => by
      rcases z with z | z
      · exact S.trk z.mem n
      · exact (S.acc p z).2 n
    exact .inl ⟨p, rfl, ⟨vs, SqL.of hv⟩, jr_still (.inl ⟨.inl hv, nl⟩) rp⟩
  · rename_i k
    obtain ⟨a, ea, rfl⟩ := r1
    cases hc : μ1[k]? with
    | none => rw [hc] at es; cases es
    | some c =>
      rw [hc] at es
      simp only at es
      cases hv : c.val with
      | dic ks ds => rw [hv] at es; cases es
      | lst ds =>
        rw [hv] at es
        cases es
        obtain ⟨b, e1, r⟩ := t1.sim.cell k c hc
        rw [ea] at e1; cases e1
        rw [hv] at r
        obtain ⟨vs, hl, rp⟩ := r
        exact .inl ⟨a, rfl, ⟨vs, SqL.of hl⟩, jr_cell ea⟩
  · cases es
/-- whatever a thing holds, its enumerated walk -/
theorem rdI_enm {K : PySem.W.Frag} {σ : L2.St} {H : Hp} {R : It → Hp → Prop} (h : rdI K XC F W (iEnm fe) σ H R) :
    rdE K XC F W fe σ H fun v H1 => (∃ a xs, v = .ref a ∧ SqL K H1 a xs ∧ R (Ite K a) H1) ∨ (∃ a xs, v = .ref a ∧ SqT K H1 a xs ∧ R (Itet K a) H1) := by
  obtain ⟨Acc, ι, ρ, μ, S, E, h⟩ := h
  refine ⟨Acc, ι, ρ, μ, S, E, ?_⟩
  unfold iEnm at h
  cases er : fe F ρ μ with
  | bad => rw [er] at h; exact h
  | exc x μ1 => rw [er] at h; exact h
  | ok v μ1 =>
    rw [er] at h
    simp only [Res.bind] at h
    intro u H1 t1 r1
    cases es : srcOf v μ1 with
    | none => rw [es] at h; cases hx : isTx v <;> (rw [hx] at h; exact h.elim)
    | some s =>
      have jr := src_jr S t1 r1.1 es
      have hp := src_plain es
      cases hx : isTx v with
      | true => rw [hx] at h; exact h.elim
      | false =>
        rw [hx, es] at h
        rw [hx] at jr
        rcases jr with ⟨a, rfl, ⟨xs, hq⟩, jr⟩ | ⟨a, rfl, ⟨xs, hq⟩, jr⟩ | jr
        · exact .inl ⟨a, xs, rfl, hq, h _ H1 t1 (jr_enumL hp jr)⟩
        · exact .inr ⟨a, xs, rfl, hq, h _ H1 t1 (jr_enumT hp jr)⟩
        · cases jr
theorem ci_enum (hg : Gl X "enumerate") (hm : X.mg "enumerate" = none) (he : PE X e (rdE X.K XC F W fe)) (hs : starEach [e] X.env = [(false, eval e X.env)] := by rfl) :
    PI X (.Tuple elts kk tpos) (.Call (.Name "enumerate" p) [e] [] pos) (rdI X.K XC F W (iEnm fe)) := by
  refine ⟨fun pins s σ H R I h => ?_⟩
  have h' := rdI_enm h
  have ha := pa_cons he pa_nil (show starEach [e] X.env = (false, eval e X.env) :: starEach [] X.env from hs)
  refine Call_ (ld_blt I hg hm boot_enumerate (PyProof.Rows.callWith_type1 (thn (ha.run pos pins s σ H (fun vs H1 => ∃ x, vs = [x] ∧ ((∃ a xs, x = .ref a ∧ SqL X.K H1 a xs ∧ R (Ite X.K a) H1) ∨ (∃ a xs, x = .ref a ∧ SqT X.K H1 a xs ∧ R (Itet X.K a) H1))) I ?_) fun us s1 ⟨vs, H1, I1, r1, q1⟩ => ?_) hs rfl))
  · obtain ⟨Acc, ι, ρ, μ, S, E, h2⟩ := h'
    exact ⟨Acc, ι, ρ, μ, S, E, wp.imp h2 fun b H' q => ⟨b, rfl, q⟩⟩
  obtain ⟨x, ex, q1⟩ := q1
  subst ex
  obtain ⟨u, rfl, ru⟩ := Vals.one r1
  have fp : ∀ b ∈ [s1.heap.objs.size + 1, s1.heap.objs.size], FpOk X pins H1 b := fun b hb => by
    have e' : b = s1.heap.objs.size + 1 ∨ b = s1.heap.objs.size := by simpa using hb
    have hle : s1.heap.objs.size ≤ b := by
      rcases e' with z | z
      · rw [z]; exact Nat.le_add_right _ _
      · rw [z]; exact Nat.le_refl _
    exact I1.fpOk hle (I1.hok.fresh hle)
  rcases q1 with ⟨a, xs, rfl, hq, q⟩ | ⟨a, xs, rfl, hq, q⟩
  · cases ru
    obtain ⟨its, rv, p', hz⟩ := I1.list hq
    refine call_enumerate_list p'.isList fun h' he hit hsz hk => wpAny_pyIter_enum he ?_
    exact ⟨s1.heap.objs.size + 1, [s1.heap.objs.size + 1, s1.heap.objs.size], _, _, H1, rfl, I1.kept (t' := s1.toks) hk, turn_enum a (s1.heap.objs.size + 1) s1.heap.objs.size, ⟨⟨.none, he⟩, hit, Nat.succ_ne_self _⟩, fp, q⟩
  · cases ru
    obtain ⟨its, rv, p', hz⟩ := I1.tuple hq
    refine vm_enumCall (begins_tuple a its.toArray) p' fun h' he hit hk => wpAny_pyIter_enum he ?_
    exact ⟨s1.heap.objs.size + 1, [s1.heap.objs.size + 1, s1.heap.objs.size], _, _, H1, rfl, I1.kept (t' := s1.toks) hk, turn_enumT a (s1.heap.objs.size + 1) s1.heap.objs.size, ⟨⟨.none, he⟩, ⟨_, hit, rfl, rfl⟩, Nat.succ_ne_self _⟩, fp, q⟩
end

/-! ### dicts -/
def eDict0 : SE := fun _ _ μ => .ok (.new (.dic [] [])) μ
/-- d.get(k, x) -/
def eGet2 (o k x : SE) : SE := fun F ρ μ => (o F ρ μ).bind fun v μ1 => match v.see μ1 with
  | some (.dic _ _) => (k F ρ μ1).bind fun w μ2 => (x F ρ μ2).bind fun u μ3 => match v.see μ3, w.see μ3 with
    | some (.dic ks ds), some kd => match kd.key with
      | some j => match dget ks ds j with
        | some d => .ok (.dat d) μ3
        | none => .ok u μ3
      | none => .bad
    | _, _ => .bad
  | _ => .bad
def eGet1 (o k : SE) : SE := eGet2 o k (eC .non)
/-- d.setdefault(k, x) -/
def eSetd (o k x : SE) : SE := fun F ρ μ => (o F ρ μ).bind fun v μ1 => match v, v.see μ1 with
  | .cel c, some (.dic _ _) => (k F ρ μ1).bind fun w μ2 => (x F ρ μ2).bind fun u μ3 => match u.frz μ3, w.see μ3 with
    | some (d, μ4), some kd => match μ4[c]?, kd.key with
      | some cc, some j => match cc.live, cc.val with
        | true, .dic ks ds => if ndK ks && decide (ks.length < LIM) then match dget ks ds j with
          | some d' => .ok (.dat d') μ4
          | none => .ok (.dat d) (μ4.set c ⟨true, .dic (dput ks ds j d).1 (dput ks ds j d).2⟩) else .bad
        | _, _ => .bad
      | _, _ => .bad
    | _, _ => .bad
  | _, _ => .bad
section
variable {X : Cx} {XC : Nat → Addr} {F : Fns} {W : WX} {o e f : Expr} {fo fe ff : SE} {apos cpos pos : Pos}
theorem c_dict0 : PE X (.Dict [] [] pos) (rdE X.K XC F W eDict0) := PEimp pe_dnewK fun σ H Q ⟨Acc, ι, ρ, μ, S, E, h⟩ p hp =>
  h (.ref p) _ (S.up hp _) ⟨⟨p, rfl, hp, [], upd_same, rfl, Reps.nil⟩, S.ownD (ks := []) (ds := []) (vs := []) hp rfl Reps.nil⟩
theorem EvR.move {K : PySem.W.Frag} {Acc : Addr → Prop} {ι : List Addr} {μ μ1 μ2 : Sto} {H H1 H2 : Hp} {v : EV} {x : V} (t1 : Stp K Acc ι μ H ι μ1 H1) (S : Sim K Acc μ ι H) (t2 : Stp K Acc ι μ1 H1 ι μ2 H2) (h : EvR K (Liv Acc μ1 ι) ι H H1 v x) : EvR K (Liv Acc μ2 ι) ι H H2 v x := EvR.mv t1 S t2 h rfl
theorem c_get2 (hu : X.A.units + 1 < cLine) (ho : PE X o (rdE X.K XC F W fo)) (he : PE X e (rdE X.K XC F W fe)) (hf : PE X f (rdE X.K XC F W ff)) (m : M2 X o "get" apos e f cpos) : PE X (.Call (.Attribute o "get" apos) [e, f] [] cpos) (rdE X.K XC F W (eGet2 fo fe ff)) :=
  PEimp (pe_dget2 hu ho he hf m) fun σ H Q ⟨Acc, ι, ρ, μ, S, E, h⟩ => by
    refine rd.bind (Stp.refl S) E h fun v μ1 x H1 _ t1 r1 h1 => ?_
    cases hs1 : v.see μ1 with
    | none => rw [hs1] at h1; exact h1.elim
    | some d1 =>
      rw [hs1] at h1
      cases d1 <;> try exact h1.elim
      simp only at h1
      obtain ⟨a, vs1, rfl, ha1, _, _⟩ := see_ok t1.sim r1.1 hs1
      refine ⟨a, rfl, .inl ⟨_, .inl ha1⟩, ?_⟩
      refine rd.bind t1 (E.mv t1 S) h1 fun w μ2 y H2 _ t2 r2 h2 => ?_
      have t12 := t1.trans t2
      refine rd.bind t12 (E.mv t12 S) h2 fun u μ3 z H3 _ t3 r3 h3 => ?_
      have t23 := t2.trans t3
      have r1' := EvR.move t1 S t23 r1.1
      have r2' := EvR.move t2 t1.sim t3 r2.1
      cases hs3 : v.see μ3 with
      | none => rw [hs3] at h3; exact h3.elim
      | some d3 =>
        rw [hs3] at h3
        cases d3 <;> try exact h3.elim
        rename_i ks ds
        cases hw : w.see μ3 with
        | none => rw [hw] at h3; exact h3.elim
        | some kd =>
          rw [hw] at h3
          simp only at h3
          cases hk : kd.key with
          | none => rw [hk] at h3; exact h3.elim
          | some j =>
            rw [hk] at h3
            simp only at h3
            obtain ⟨a3, vs, e3, ha, hl, rp⟩ := see_ok t3.sim r1' hs3
            cases e3
            have ey := key_rep hk (see_ok t3.sim r2' hw)
            subst ey
            refine ⟨_, DGet.k ha, ?_⟩
            have hg := val_get (k := j) hl rp
            cases hd : dget ks ds j with
            | some d =>
              rw [hd] at h3 hg
              obtain ⟨vv, e1, rv⟩ := hg
              rw [e1]
              exact h3 vv H3 (t12.trans t3) ⟨rv, trivial⟩
            | none =>
              rw [hd] at h3 hg
              have hg : valV (ks.zip vs) j = none := hg
              rw [hg]
              exact h3 z H3 (t12.trans t3) ⟨EvR.back t12 r3.1, r3.2⟩
theorem c_get1 (hu : X.A.units + 1 < cLine) (ho : PE X o (rdE X.K XC F W fo)) (he : PE X e (rdE X.K XC F W fe)) (m : M1 X o "get" apos e cpos) : PE X (.Call (.Attribute o "get" apos) [e] [] cpos) (rdE X.K XC F W (eGet1 fo fe)) :=
  PEimp (pe_dget1 hu ho he m) fun σ H Q ⟨Acc, ι, ρ, μ, S, E, h⟩ => by
    unfold eGet1 eGet2 at h
    refine rd.bind (Stp.refl S) E h fun v μ1 x H1 _ t1 r1 h1 => ?_
    cases hs1 : v.see μ1 with
    | none => rw [hs1] at h1; exact h1.elim
    | some d1 =>
      rw [hs1] at h1
      cases d1 <;> try exact h1.elim
      simp only at h1
      obtain ⟨a, vs1, rfl, ha1, _, _⟩ := see_ok t1.sim r1.1 hs1
      refine ⟨a, rfl, .inl ⟨_, .inl ha1⟩, ?_⟩
      refine rd.bind t1 (E.mv t1 S) h1 fun w μ2 y H2 _ t2 r2 h2 => ?_
      simp only [eC, Res.bind] at h2
      have t12 := t1.trans t2
      have r1' := EvR.move t1 S t2 r1.1
      cases hs3 : v.see μ2 with
      | none => rw [hs3] at h2; exact h2.elim
      | some d3 =>
        rw [hs3] at h2
        cases d3 <;> try exact h2.elim
        rename_i ks ds
        cases hw : w.see μ2 with
        | none => rw [hw] at h2; exact h2.elim
        | some kd =>
          rw [hw] at h2
          simp only at h2
          cases hk : kd.key with
          | none => rw [hk] at h2; exact h2.elim
          | some j =>
            rw [hk] at h2
            simp only at h2
            obtain ⟨a3, vs, e3, ha, hl, rp⟩ := see_ok t2.sim r1' hs3
            cases e3
            have ey := key_rep hk (see_ok t2.sim r2.1 hw)
            subst ey
            refine ⟨_, DGet.k ha, ?_⟩
            have hg := val_get (k := j) hl rp
            cases hd : dget ks ds j with
            | some d =>
              rw [hd] at h2 hg
              obtain ⟨vv, e1, rv⟩ := hg
              rw [e1]
              exact h2 vv H2 t12 ⟨rv, trivial⟩
            | none =>
              rw [hd] at h2 hg
              have hg : valV (ks.zip vs) j = none := hg
              rw [hg]
              exact h2 V.non H2 t12 ⟨rfl, trivial⟩
theorem c_setd (ho : PE X o (rdE X.K XC F W fo)) (he : PE X e (rdE X.K XC F W fe)) (hf : PE X f (rdE X.K XC F W ff)) (m : M2 X o "setdefault" apos e f cpos) : PE X (.Call (.Attribute o "setdefault" apos) [e, f] [] cpos) (rdE X.K XC F W (eSetd fo fe ff)) :=
  PEimp (pe_dsetd ho he hf m) fun σ H Q ⟨Acc, ι, ρ, μ, S, E, h⟩ => by
    refine rd.bind (Stp.refl S) E h fun v μ1 x H1 _ t1 r1 h1 => ?_
    cases v with
    | dat _ => exact h1.elim
    | new _ => exact h1.elim
    | cel c =>
      cases hs1 : (EV.cel c).see μ1 with
      | none => rw [hs1] at h1; exact h1.elim
      | some d1 =>
        rw [hs1] at h1
        cases d1 <;> try exact h1.elim
        simp only at h1
        obtain ⟨a, vs1, ea, ha1, _, _⟩ := see_ok t1.sim r1.1 hs1
        subst ea
        refine ⟨a, rfl, .inl ⟨_, .inl ha1⟩, ?_⟩
        obtain ⟨a', ek, e'⟩ := r1.1
        cases e'
        refine rd.bind t1 (E.mv t1 S) h1 fun w μ2 y H2 _ t2 r2 h2 => ?_
        have t12 := t1.trans t2
        refine rd.bind t12 (E.mv t12 S) h2 fun u μ3 z H3 _ t3 r3 h3 => ?_
        have r2' := EvR.move t2 t1.sim t3 r2.1
        cases hf : u.frz μ3 with
        | none => rw [hf] at h3; exact h3.elim
        | some p =>
          obtain ⟨d, μ4⟩ := p
          rw [hf] at h3
          cases hw : w.see μ3 with
          | none => rw [hw] at h3; exact h3.elim
          | some kd =>
            rw [hw] at h3
            simp only at h3
            obtain ⟨t4, rd⟩ := frz_ok t3.sim (fun a h => t2.sim.trk h) (fun a h => (t2.sim.acc a h).2) r3.1 hf
            have t14 := (t12.trans t3).trans t4
            cases hc : μ4[c]? with
            | none => rw [hc] at h3; exact h3.elim
            | some cc =>
              rw [hc] at h3
              cases hk : kd.key with
              | none => rw [hk] at h3; exact h3.elim
              | some j =>
                rw [hk] at h3
                simp only at h3
                have ey := key_rep hk (see_ok t3.sim r2' hw)
                subst ey
                cases hl : cc.live with
                | false => rw [hl] at h3; exact h3.elim
                | true =>
                  cases hv : cc.val with
                  | lst _ => rw [hl, hv] at h3; exact h3.elim
                  | dic ks ds =>
                    rw [hl, hv] at h3
                    simp only at h3
                    obtain ⟨b, eb, rc⟩ := t4.sim.cell c cc hc
                    rw [ek] at eb; cases eb
                    rw [hv] at rc
                    obtain ⟨vs, ha, ll, rp⟩ := rc
                    split at h3
                    case isFalse => exact h3.elim
                    case isTrue hz =>
                      rw [Bool.and_eq_true, decide_eq_true_eq] at hz
                      have hzl : (ks.zip vs).length < sizeLine := by
                        rw [List.length_zip]
                        have h2 : LIM < sizeLine := by decide
                        have := hz.2
                        omega
                      have hg := val_get (k := j) ll rp
                      cases hd : dget ks ds j with
                      | some d' =>
                        rw [hd] at h3 hg
                        obtain ⟨vv, e1, rv⟩ := hg
                        refine ⟨_, j, ha, rfl, hzl, fun v hv => ?_, fun hn => ?_⟩
                        · rw [e1] at hv
                          cases hv
                          exact h3 vv H3 t14 ⟨rv, trivial⟩
                        · rw [e1] at hn; cases hn
                      | none =>
                        rw [hd] at h3 hg
                        simp only at h3
                        have hg : valV (ks.zip vs) j = none := hg
                        obtain ⟨ws, e1, r1⟩ := val_put (ndK_ok hz.1) ll rp rd
                        refine ⟨_, j, ha, rfl, hzl, fun v hv => ?_, fun _ => ?_⟩
                        · rw [hg] at hv; cases hv
                        · have tp := t4.sim.put (c' := .dic (dput ks ds j d).1 (dput ks ds j d).2) hc hl ek (o := .dK (putK (ks.zip vs) j z)) fun H' m e => ⟨ws, by rw [e, e1], dput_len ll, Reps.mv m _ _ r1⟩
                          exact h3 z _ (t14.trans tp) ⟨Rep.mv (tp.mv t4.sim) _ _ rd, trivial⟩
end
end VM
/-! Comprehensions: the rules. -/
namespace VM
open PySem L2 PyProof.Rows
example : asg (.tup [.nm 0, .tup [.nm 1]]) (.tup [.int 1, .tup [.non]]) [none, none] = some [some (.dat (.int 1)), some (.dat .non)] := rfl
section
variable {X : Cx} {XC : Nat → Addr} {F : Fns} {W : WX} {pos spos : Pos} {tg iter elt e : Expr} {ifs : List Expr} {es : List Expr} {x : Str}
theorem t_nm {i : Nat} (hN : X.N.Nodup) (hi : X.N[i]? = some x) (hx : Loc X.env.scope x) (hf : X.fn x = true ∨ X.env.scope.names.lookup x = some .local := by first | exact .inl rfl | exact .inr rfl | assumption) : PG X (.Name x pos) (gT X.K (.nm i)) := by
  simp only [gT]
  exact pg_name hN hi hx hf
theorem t_nil : PGs X [] (gTs X.K []) := by
  simp only [gTs]
  exact pgs_nil
theorem t_cons {t : Tgt} {ts : List Tgt} (h1 : PG X e (gT X.K t)) (h2 : PGs X es (gTs X.K ts)) (hs : (assignEach (e :: es) X.env).map (·.2) = assign e X.env :: (assignEach es X.env).map (·.2) := by rfl) : PGs X (e :: es) (gTs X.K (t :: ts)) := by
  simp only [gTs]
  exact pgs_cons h1 h2 hs
theorem t_tp {k : Nat} {ts : List Tgt} {n : Nat} (hc : X.calm = true) (h : PGs X es (gTs X.K ts)) (hl : ts.length = n := by rfl) (hn : (assignEach es X.env).length = n := by rfl) (hst : (assignEach es X.env).findIdx? (·.1) = none := by rfl) : PG X (.Tuple es k pos) (gT X.K (.tup ts)) := by
  simp only [gT]
  subst hl
  exact pg_tup hc h hn hst
theorem PTsimp {ifs : List Expr} {t t' : TT} (h : PTs X ifs t) (i : ∀ σ H Q, t' σ H Q → t σ H Q) : PTs X ifs t' := ⟨fun pins s σ H Q I q => h.run pins s σ H Q I (i σ H Q q)⟩
theorem q_yes : PTs X [] (rdB X.K XC F W bYes) := PTsimp pts_nil fun σ H Q ⟨Acc, ι, ρ, μ, S, E, h⟩ => h true H (.refl S) rfl
theorem q_one {c : Expr} {fc : SB} (h : PT X c (rdB X.K XC F W fc)) : PTs X [c] (rdB X.K XC F W fc) := pts_one h
theorem c_lc {scope : Scope} {own : List (Str × Nat)} {fi : SI} {t : Tgt} {fc : SB} {fe : SE} {vs : List Nat} (hc : X.calm = true) (hN : X.N.Nodup) (hi : PI X tg iter (rdI X.K XC F W fi)) (ok : BlkOk X.N X.env.scope scope own) (hsl : ∀ i ∈ t.slots, i ∈ vs) (hv : own.map (·.2) = vs)
    (hg : ∀ (s : Shared) (H : Hp) (C : Addr) (cl : List (Str × Addr)) (fp : List Addr), PG (X.blk s H scope (compEnvC scope cl C X.env) fp) tg (gT X.K t))
    (ht : ∀ (s : Shared) (H : Hp) (C : Addr) (cl : List (Str × Addr)) (fp : List Addr), PTs (X.blk s H scope (compEnvC scope cl C X.env) fp) ifs (rdB X.K XC F W0 fc))
    (he : ∀ (s : Shared) (H : Hp) (C : Addr) (cl : List (Str × Addr)) (fp : List Addr), PE (X.blk s H scope (compEnvC scope cl C X.env) fp) elt (rdE X.K XC F W0 fe)) (hs : ∀ x, foldedSetIterable iter X.env x = pure x := by intro _; rfl) :
    PE X (.ListComp elt [⟨tg, iter, ifs, 0⟩] scope pos) (rdE X.K XC F W (eLc fi t fc fe vs)) := by
  subst hv
  exact PEimp (pe_lc hc hN hi ok hg ht he hs) fun σ H Q h => lc_read hsl h
theorem s_lc {i : Nat} {y : Str} {py : Pos} {scope : Scope} {own : List (Str × Nat)} {fi : SI} {t : Tgt} {fc : SB} {fe : SE} {vs : List Nat} (hc : X.calm = true) (hN : X.N.Nodup) (hy : X.N[i]? = some y) (hyl : X.env.scope.names.lookup y = some .local)
    (hsw : swapsWith (.ListComp elt [⟨tg, iter, ifs, 0⟩] scope pos) (some (.Name y py)) spos.line X.env = pure true)
    (hi : PI X tg iter (rdI X.K XC F W fi)) (ok : BlkOk X.N X.env.scope scope own) (hsl : ∀ i ∈ t.slots, i ∈ vs) (hv : own.map (·.2) = vs)
    (hg : ∀ (s : Shared) (H : Hp) (C : Addr) (cl : List (Str × Addr)) (fp : List Addr), PG (X.blk s H scope (compEnvC scope cl C X.env) fp) tg (gT X.K t))
    (ht : ∀ (s : Shared) (H : Hp) (C : Addr) (cl : List (Str × Addr)) (fp : List Addr), PTs (X.blk s H scope (compEnvC scope cl C X.env) fp) ifs (rdB X.K XC F W0 fc))
    (he : ∀ (s : Shared) (H : Hp) (C : Addr) (cl : List (Str × Addr)) (fp : List Addr), PE (X.blk s H scope (compEnvC scope cl C X.env) fp) elt (rdE X.K XC F W0 fe)) (hs : ∀ x, foldedSetIterable iter X.env x = pure x := by intro _; rfl) :
    PS X (.Assign [.Name y py] (.ListComp elt [⟨tg, iter, ifs, 0⟩] scope pos) spos) (rdS X.K XC F W (sSet i (eLc fi t fc fe vs))) := by
  subst hv
  refine PSimp (ps_setLc hc hN hy hyl hsw hi ok hg ht he hs) fun D σ H ⟨Acc, ι, ρ, μ, S, E, h⟩ => ?_
  refine lc_read hsl (rd.stm (Stp.refl S) E h fun v μ1 b H1 t1 r1 h1 => ?_)
  obtain ⟨ι', t', r'⟩ := bnd_ok S t1 r1.1 r1.2
  exact h1 ι' H1 _ t' ((E.mv t' S).set r')
end
end VM
/-! t[::-1] of a tuple. -/
namespace HT
open PySem PySem.Spec PyProof.Rows
section
variable {prog : Program} {w : World} {A : Around} {E : Value → Shared → Prop} {s : Shared}
theorem adjust_rev (n : Nat) : Builtin.Slice.sliceAdjust none none (-1) (n : Int) = ((n : Int) - 1, -1) := by
  have h1 : (-1 : Int) < 0 := by omega
  unfold Builtin.Slice.sliceAdjust
  simp only [h1, if_true]
theorem places_rev (n : Nat) : Builtin.Slice.slicePlaces ((n : Int) - 1) (-1) (-1) = n := by
  unfold Builtin.Slice.slicePlaces
  have h1 : ¬ (-1 : Int) > 0 := by omega
  have e : - (-1 : Int) = 1 := by decide
  simp only [h1, if_false, e, Int.ediv_one]
  split <;> omega
theorem sliceApplied_rev {sl : Addr} {t : Tok} {n : Nat} {Q : Int × Int × Nat → Shared → Prop} (hs : s.heap.IsSliceOf sl .none .none (.int (-1) t))
    (h : Q ((n : Int) - 1, -1, n) s) : wpAny (model prog w) A (Builtin.Slice.sliceApplied (.ref sl) (pure (n : Int))) Q E s := by
  obtain ⟨os, hos, hcs, hds⟩ := id hs
  unfold Builtin.Slice.sliceApplied Builtin.Slice.sliceFields
  refine wpAny_bind (wpAny_bind (wpAny_field hos hds (x := .none) rfl (wpAny_bind (wpAny_field hos hds (x := .none) rfl (wpAny_bind (wpAny_field hos hds (x := .int (-1) t) rfl (wpAny_pure ?_)))))))
  refine wpAny_bind (slicePart_int ?_)
  show wpAny _ _ (if ((-1 : Int) == 0) = true then _ else _) _ _ s
  rw [if_neg (by decide)]
  refine wpAny_bind (slicePart_none (wpAny_bind (slicePart_none (wpAny_bind (wpAny_pure ?_)))))
  show wpAny _ _ (match Builtin.Slice.sliceAdjust none none (-1) (n : Int) with | (lo, hi) => pure (lo, (-1 : Int), Builtin.Slice.slicePlaces lo hi (-1))) _ _ s
  rw [adjust_rev n]
  show wpAny _ _ (pure ((n : Int) - 1, (-1 : Int), Builtin.Slice.slicePlaces ((n : Int) - 1) (-1) (-1))) _ _ s
  rw [places_rev]
  exact wpAny_pure h
theorem fm_map {α β : Type} {f : α → Option β} {g : α → β} : ∀ {l : List α}, (∀ x ∈ l, f x = some (g x)) → l.filterMap f = l.map g
  | [], _ => rfl
  | x :: l, h => by
    rw [List.filterMap_cons, h x List.mem_cons_self, List.map_cons, fm_map fun y hy => h y (List.mem_cons_of_mem _ hy)]
theorem pick_rev (xs : List Value) : ((List.range xs.length).filterMap fun (m : Nat) => xs.toArray[((xs.length : Int) - 1 + (m : Int) * (-1)).toNat]?) = xs.reverse := by
  have key : ∀ m ∈ List.range xs.length, xs.toArray[((xs.length : Int) - 1 + (m : Int) * (-1)).toNat]? = some (xs.reverse[m]?.getD .none) := fun m hm => by
    have hm : m < xs.length := by simpa using hm
    have e : ((xs.length : Int) - 1 + (m : Int) * (-1)).toNat = xs.length - 1 - m := by omega
    have hl : xs.length - 1 - m < xs.length := by omega
    rw [e, List.getElem?_reverse hm, List.getElem?_toArray, List.getElem?_eq_getElem hl]
    rfl
  rw [fm_map key]
  apply List.ext_getElem
  · simp
  · intro i h1 h2
    have hi : i < xs.reverse.length := h2
    rw [List.getElem_map, List.getElem_range, List.getElem?_eq_getElem hi]
    rfl
theorem getItem_tuple_rev {t sl : Addr} {its : List Value} {tk : Tok} {Q : Value → Shared → Prop} (ht : IsTup s.heap t its.toArray) (hs : s.heap.IsSliceOf sl .none .none (.int (-1) tk))
    (h : Q (.ref s.heap.objs.size) { s with heap := s.heap.push { cls := .type "tuple", data := .seq its.reverse.toArray } })
    (hsz : its.length ≤ sizeLine) : wpAny (model prog w) A (getItem (.ref t) (.ref sl)) Q E s := by
  have htake : sizeOk (.seq its.reverse.toArray) := by
    show its.reverse.toArray.size ≤ sizeLine
    rw [List.size_toArray, List.length_reverse]
    exact hsz
  obtain ⟨os, hos, hcs, hds⟩ := id hs
  have hTs : s.TypeIs (.ref sl) "slice" := ⟨os, hos, hcs⟩
  unfold getItem
  try with_reducible refine wpAny_holding ?_
  first | refine wpAny_bind (wpAny_pure ?_) | skip
  refine wpAny_bind (wpAny_sequenceKey ht.typeIs (by decide) ?_)
  refine wpAny_bind (wpAny_callSpecial?_slot (name := Str.ofString "__getitem__") ht.typeIs PyProof.Rows.slot_tuple_getitem
    (wpAny_call_entry PyProof.Rows.slot_tuple_getitem ht.typeIs entry_tuple_getitem ?_ (args_tuple_getitem _ _)))
  show wpAny _ _ (Builtin.Tuple.tupleItemsOf (.ref t) >>= _) _ _ s
  refine wpAny_bind (tupleItemsOf_ ht ?_)
  refine wpAny_bind (wpAny_typeOf hTs ?_)
  rw [if_pos (by decide)]
  refine wpAny_bind (sliceApplied_rev (n := its.toArray.size) hs ?_)
  have hno : ¬ ((((its.toArray.size : Int) - 1) == 0 && (-1 : Int) == 1 && its.toArray.size == its.toArray.size) = true) := by
    intro q
    rw [Bool.and_eq_true, Bool.and_eq_true] at q
    exact absurd (eq_of_beq q.1.2) (by decide)
  show wpAny _ _ (if (((its.toArray.size : Int) - 1) == 0 && (-1 : Int) == 1 && its.toArray.size == its.toArray.size) = true then _ else _) _ _ s
  rw [if_neg hno, List.size_toArray, pick_rev]
  first
    | exact wpAny_bind (m := Builtin.Tuple.tupleExact _) (wpAny_newObj_type (wpAny_pure ⟨_, rfl, wpAny_pure h⟩) htake)
    | exact wpAny_bind (m := Builtin.Tuple.tupleExact _) (wpAny_newObj_type (wpAny_bind (wpAny_pure (wpAny_pure ⟨_, rfl, wpAny_pure h⟩))) htake)
    | exact wpAny_bind (wpAny_bind (m := Builtin.Tuple.tupleExact _) (wpAny_newObj_type (wpAny_pure (wpAny_pure ⟨_, rfl, wpAny_pure h⟩)) htake))
    | exact wpAny_bind (wpAny_bind (m := Builtin.Tuple.tupleExact _) (wpAny_newObj_type (wpAny_pure ⟨_, rfl, wpAny_pure h⟩) htake))
end
end HT
namespace VM
open PySem L2 PyProof.Rows
def tRevT (K : PySem.W.Frag) (te : TE) : TE := fun σ H Q => te σ H fun x H1 => ∃ a xs, x = .ref a ∧ SqT K H1 a xs ∧ ∀ p, H1 p = none → Q (.ref p) (upd H1 p (.tup xs.reverse))
theorem pe_revT {X : Cx} {e : Expr} {te : TE} {k : Nat} {p1 p2 p3 pos : Pos} (he : PE X e te) : PE X (.Subscript e (.Slice none none (some (.UnaryOp .USub (.Constant (.int 1) k p1) p2)) p3) pos) (tRevT X.K te) := by
  refine ⟨fun pins s σ H Q I h => ?_⟩
  refine Subscript_ (thn (he.run pins s σ H _ I h) fun v s1 ⟨x, H1, I1, r1, q1⟩ => ?_)
  obtain ⟨a, xs, ex, hx, q⟩ := q1
  subst ex
  cases r1
  have hst : PO X (some (.UnaryOp .USub (.Constant (.int 1) k p1) p2)) (tPart (tUn (rU fun i => .int (-i)) (tC (.int 1)))) := po_some (pe_un un_neg pe_int)
  refine wpAny_Slice (thn (po_none.run pins s1 σ H1 (fun o H2 => o = none ∧ H2 = H1) I1 ⟨rfl, rfl⟩) fun vl s2 ⟨l, H2, I2, pl, el, e2⟩ => ?_)
  subst el e2
  refine thn (po_none.run pins s2 σ H2 (fun o H3 => o = none ∧ H3 = H2) I2 ⟨rfl, rfl⟩) fun vu s3 ⟨u, H3, I3, pu, eu, e3⟩ => ?_
  subst eu e3
  refine thn (hst.run pins s3 σ H3 (fun o H4 => o = some (-1) ∧ H4 = H3) I3 ⟨1, rfl, -1, rfl, rfl, rfl⟩) fun vs s4 ⟨o, H4, I4, ps, eo, e4⟩ => ?_
  subst eo e4
  cases pl
  cases pu
  obtain ⟨tk, evs⟩ : ∃ tk, vs = .int (-1) tk := by
    cases ps
    exact ⟨_, rfl⟩
  subst evs
  have I5 : Inv X pins σ H4 { s4 with heap := s4.heap.push { cls := .type "slice", data := .fields #[.none, .none, .int (-1) tk] } } := I4.kept (t' := s4.toks) fun b ob q => Heap.get?_push_of_some _ q
  obtain ⟨its, r, ht, hz⟩ := I5.tuple hx
  have hlen := r.length
  show wpAny (model X.prog X.w) X.A (subscriptTail e (.Slice none none (some (.UnaryOp .USub (.Constant (.int 1) k p1) p2)) p3) (.ref a) (.ref s4.heap.objs.size)) (EP X pins σ Q) X.xe { s4 with heap := s4.heap.push { cls := .type "slice", data := .fields #[.none, .none, .int (-1) tk] } }
  refine tail_any (ops := [.ref a, .ref s4.heap.objs.size]) ht.typeIs (PyProof.Rows.slot_tuple_getitem.lookup) ?_ (by with_unfolding_all rfl)
  refine HT.getItem_tuple_rev ht (Heap.IsSliceOf.new _ .none .none (.int (-1) tk)) ?_ (by rw [← hlen]; exact hz)
  refine ⟨.ref _, _, I5.laid (t' := s4.toks) (o := .tup xs.reverse) (fun b ob q => Heap.get?_push_of_some _ q) (Nat.le_refl _) ?_, rfl, q _ (I5.hok.fresh (Nat.le_refl _))⟩
  exact ⟨by rw [List.length_reverse]; exact hz, _, r.reverse, IsTup.new _ _⟩
/-- lists and tuples turned round -/
def eRev (f : SE) : SE := fun F ρ μ => (f F ρ μ).bind fun v μ1 => match v.see μ1 with
  | some (.lst ds) => .ok (.new (.lst ds.reverse)) μ1
  | some (.tup ds) => .ok (.dat (.tup ds.reverse)) μ1
  | _ => .bad
theorem pe_or {X : Cx} {e : Expr} {t t' : TE} (h : PE X e t) (h' : PE X e t') : PE X e (fun σ H Q => t σ H Q ∨ t' σ H Q) := ⟨fun pins s σ H Q I q => q.elim (fun q => h.run pins s σ H Q I q) fun q => h'.run pins s σ H Q I q⟩
section
variable {X : Cx} {XC : Nat → Addr} {F : Fns} {W : WX} {e : Expr} {fe : SE} {k : Nat} {p1 p2 p3 pos : Pos}
theorem c_rev (he : PE X e (rdE X.K XC F W fe)) : PE X (.Subscript e (.Slice none none (some (.UnaryOp .USub (.Constant (.int 1) k p1) p2)) p3) pos) (rdE X.K XC F W (eRev fe)) :=
  PEimp (pe_or (pe_revL he) (pe_revT he)) fun σ H Q ⟨Acc, ι, ρ, μ, S, E, h⟩ => by
    unfold eRev at h
    cases er : fe F ρ μ with
    | bad => rw [er] at h; exact h.elim
    | exc x μ1 => rw [er] at h; exact .inl ⟨Acc, ι, ρ, μ, S, E, by rw [er]; exact h⟩
    | ok v μ1 =>
      rw [er] at h
      simp only [Res.bind] at h
      cases hs : v.see μ1 with
      | none => rw [hs] at h; exact h.elim
      | some d =>
        rw [hs] at h
        cases d <;> try exact h.elim
        · rename_i ds
          refine .inr ⟨Acc, ι, ρ, μ, S, E, ?_⟩
          rw [er]
          intro u H1 t1 r1
          obtain ⟨a, vs, rfl, tp, rp⟩ := seeT (see_ok t1.sim r1.1 hs)
          exact ⟨a, vs, rfl, tp.sq, fun p hp => h (.ref p) _ (t1.trans (t1.sim.up hp _)) ⟨t1.sim.newT hp (Reps.rev rp), trivial⟩⟩
        · rename_i ds
          refine .inl ⟨Acc, ι, ρ, μ, S, E, ?_⟩
          rw [er]
          intro u H1 t1 r1
          obtain ⟨a, vs, rfl, tp, rp⟩ := seeL (see_ok t1.sim r1.1 hs)
          exact ⟨a, vs, rfl, SqL.of tp, fun p hp => h (.ref p) _ (t1.trans (t1.sim.up hp _)) ⟨⟨p, rfl, t1.back hp, t1.sim.newL hp (Reps.rev rp)⟩, t1.sim.ownN hp (Reps.rev rp)⟩⟩
end
end VM
/-! repr of lists and tuples. -/
namespace VM
open PySem L2 PyProof.Rows
mutual
def D.rp : D → PyData
  | .non => .none
  | .bl b => .bool b
  | .int i => .int i
  | .str x => .str x
  | .tup ds => .tuple (rps ds)
  | .lst ds => .list (rps ds)
  | .dic _ _ => .dict []
  | .scr ns => .list (ns.map .int)
def rps : List D → List PyData
  | [] => []
  | d :: ds => d.rp :: rps ds
end
mutual
def D.flat : D → Bool
  | .dic _ _ => false
  | .tup ds => flats ds
  | .lst ds => flats ds
  | _ => true
def flats : List D → Bool
  | [] => true
  | d :: ds => d.flat && flats ds
end
section
variable {X : Cx} {pins : List (Addr × Obj)} {σ : L2.St} {H : Hp} {s : Shared} {L : Addr → Prop}
theorem reads_ints {h : Heap} : ∀ {ns : List Int} {us : List Value}, Vals (ns.map V.int) us → ∃ as, ReadsAll h us (ns.map .int) as
  | [], us, r => by cases r; exact ⟨_, .nil⟩
  | n :: ns, us, r => by
    cases r with
    | cons r t =>
      obtain ⟨k, rfl⟩ := r
      obtain ⟨as, q⟩ := reads_ints t
      exact ⟨_, .cons (.int n k) q⟩
mutual
theorem reads_of (I : Inv X pins σ H s) : ∀ (d : D) (v : V) (u : Value), d.flat = true → Rep X.K L H d v → RelV v u → ∃ as, Reads s.heap u d.rp as
  | .non, v, u, hf, r, ru => by
    have e : v = .non := by simpa only [Rep] using r
    subst e
    have ru : u = .none := ru
    subst ru
    exact ⟨_, by simp only [D.rp]; exact .none⟩
  | .bl b, v, u, hf, r, ru => by
    have e : v = .bl b := by simpa only [Rep] using r
    subst e
    have ru : u = .bool b := ru
    subst ru
    exact ⟨_, by simp only [D.rp]; exact .bool b⟩
  | .int i, v, u, hf, r, ru => by
    have e : v = .int i := by simpa only [Rep] using r
    subst e
    obtain ⟨t, rfl⟩ := ru
    exact ⟨_, by simp only [D.rp]; exact .int i t⟩
  | .str x, v, u, hf, r, ru => by
    have e : v = .str x := by simpa only [Rep] using r
    subst e
    obtain ⟨t, rfl⟩ := ru
    exact ⟨_, by simp only [D.rp]; exact .str x t⟩
  | .tup ds, v, u, hf, r, ru => by
    obtain ⟨a, vs, rfl, tp, rp⟩ := (by simpa only [Rep] using r : ∃ a vs, v = .ref a ∧ TupN X.K L H a vs ∧ Reps X.K L H ds vs)
    obtain rfl : u = .ref a := ru
    obtain ⟨its, rv, ⟨o, h1, h2, n, h3⟩, hz⟩ := I.tuple tp.sq
    obtain ⟨as, q⟩ := readsAll_of I ds vs its (by simpa only [D.flat] using hf) rp rv
    exact ⟨_, by simp only [D.rp]; exact .tuple h1 h2 h3 (by simpa using q)⟩
  | .lst ds, v, u, hf, r, ru => by
    obtain ⟨a, vs, rfl, tp, n, rp⟩ := (by simpa only [Rep] using r : ∃ a vs, v = .ref a ∧ H a = some (.lst vs) ∧ ¬ L a ∧ Reps X.K L H ds vs)
    obtain rfl : u = .ref a := ru
    obtain ⟨its, n, rv, h1, hz⟩ := I.lst tp
    obtain ⟨as, q⟩ := readsAll_of I ds vs its (by simpa only [D.flat] using hf) rp rv
    exact ⟨_, by simp only [D.rp]; exact .list h1 rfl rfl (by simpa using q)⟩
  | .dic _ _, v, u, hf, r, ru => by simp only [D.flat] at hf; cases hf
  | .scr ns, v, u, hf, r, ru => by
    obtain ⟨a, rfl, tp⟩ := (by simpa only [Rep] using r : ∃ a, v = .ref a ∧ LstN X.K L H a (ns.map V.int))
    obtain rfl : u = .ref a := ru
    obtain ⟨its, rv, p, hz⟩ := I.list tp.sq
    obtain ⟨o, h1, h2, n, h3⟩ := p.isList
    obtain ⟨as, q⟩ := reads_ints (h := s.heap) rv
    exact ⟨_, by simp only [D.rp]; exact .list h1 h2 h3 (by simpa using q)⟩
theorem readsAll_of (I : Inv X pins σ H s) : ∀ (ds : List D) (vs : List V) (us : List Value), flats ds = true → Reps X.K L H ds vs → Vals vs us → ∃ as, ReadsAll s.heap us (rps ds) as
  | [], vs, us, hf, r, ru => by
    rw [r.invN] at ru
    cases ru
    exact ⟨_, by simp only [rps]; exact .nil⟩
  | d :: ds, vs, us, hf, r, ru => by
    obtain ⟨v, rs, rfl, h1, h2⟩ := r.inv
    cases ru with
    | cons ru rr =>
      rename_i u us
      simp only [flats, Bool.and_eq_true] at hf
      obtain ⟨as, q⟩ := reads_of I d v u hf.1 h1 ru
      obtain ⟨bs, p⟩ := readsAll_of I ds rs us hf.2 h2 rr
      exact ⟨_, by simp only [rps]; exact .cons q p⟩
end
mutual
theorem flat_nodict : ∀ d : D, d.flat = true → d.rp.hasDict = false
  | .non, _ => by simp only [D.rp, PyData.hasDict]
  | .bl _, _ => by simp only [D.rp, PyData.hasDict]
  | .int _, _ => by simp only [D.rp, PyData.hasDict]
  | .str _, _ => by simp only [D.rp, PyData.hasDict]
  | .tup ds, h => by simp only [D.rp, PyData.hasDict]; exact flats_nodict ds (by simpa only [D.flat] using h)
  | .lst ds, h => by simp only [D.rp, PyData.hasDict]; exact flats_nodict ds (by simpa only [D.flat] using h)
  | .dic _ _, h => by simp only [D.flat] at h; cases h
  | .scr ns, _ => by
    simp only [D.rp, PyData.hasDict]
    have z : ∀ ns : List Int, PyData.hasDictAll (ns.map PyData.int) = false := by
      intro ns
      induction ns with
      | nil => simp only [List.map_nil, PyData.hasDictAll]
      | cons n ns ih => rw [List.map_cons]; simp only [PyData.hasDictAll, PyData.hasDict, ih, Bool.or_false]
    exact z ns
theorem flats_nodict : ∀ ds : List D, flats ds = true → PyData.hasDictAll (rps ds) = false
  | [], _ => by simp only [rps, PyData.hasDictAll]
  | d :: ds, h => by
    simp only [flats, Bool.and_eq_true] at h
    simp only [rps, PyData.hasDictAll, flat_nodict d h.1, flats_nodict ds h.2, Bool.or_false]
end
end
def reprOk (d : D) : Bool := d.flat && d.rp.showable && decide (d.rp.depth ≤ 150) && decide (d.rp.shown.length ≤ LIM)
def isSeq : D → Bool
  | .tup _ => true
  | .lst _ => true
  | .scr _ => true
  | _ => false
/-- what repr gives -/
def fRepr : List D → Option EV
  | [d] => if isSeq d && reprOk d then some (.dat (.str d.rp.shown)) else none
  | _ => none
def rReprD (K : PySem.W.Frag) : List V → Hp → VK → Prop := fun xs H Q => ∃ (L : Addr → Prop) (d : D) (v : V), xs = [v] ∧ SeeR K L H d v ∧ isSeq d = true ∧ reprOk d = true ∧ Q (.str d.rp.shown) H
theorem call_reprD {X : Cx} (hG : X.A.guards = some []) (hu : X.A.units + 152 < cLine) : CallR X (.builtin "repr") (rReprD X.K) := by
  intro pins s σ H xs us Q I r h
  obtain ⟨L, d, v, rfl, rs, hq, hok, q⟩ := h
  obtain ⟨u, rfl, ru⟩ := Vals.one r
  simp only [reprOk, Bool.and_eq_true, decide_eq_true_eq] at hok
  obtain ⟨⟨⟨hf, hs⟩, hd⟩, hz⟩ := hok
  have fin : ∀ a : Addr, (∃ as, Reads s.heap (.ref a) d.rp as) → wpAny (model X.prog X.w) X.A (call (.builtin "repr") [.ref a]) (EP X pins σ Q) X.xe s := fun a ⟨as, rd⟩ =>
    repr_of_reads' rd hs (fun z => by rw [flat_nodict d hf] at z; cases z) hG (by omega) (fun b o e => e) (fun h' t tk hk => ⟨.str d.rp.shown, H, I.kept (t' := tk) hk, ⟨t, rfl⟩, q⟩) (lim_ok hz)
  cases d <;> try (cases hq; done)
  · rename_i ds
    obtain ⟨a, vs, rfl, tp, rp⟩ := seeT rs
    obtain rfl : u = .ref a := ru
    exact fin a (reads_of I (.tup ds) (.ref a) (.ref a) hf (by simp only [Rep]; exact ⟨a, vs, rfl, tp, rp⟩) rfl)
  · rename_i ds
    obtain ⟨a, vs, rfl, tp, rp⟩ := seeL rs
    obtain rfl : u = .ref a := ru
    refine fin a ?_
    obtain ⟨its, n, rv, h1, _⟩ := I.lst tp
    obtain ⟨as, q⟩ := readsAll_of I ds vs its (by simpa only [D.flat] using hf) rp rv
    exact ⟨_, by simp only [D.rp]; exact .list h1 rfl rfl (by simpa using q)⟩
  · rename_i ns
    obtain ⟨a, rfl, tp⟩ := (by simpa only [SeeR, Rep] using rs : ∃ a, v = .ref a ∧ LstN X.K L H a (ns.map V.int))
    obtain rfl : u = .ref a := ru
    exact fin a (reads_of I (.scr ns) (.ref a) (.ref a) hf (by simp only [Rep]; exact ⟨a, rfl, tp⟩) rfl)
theorem on_repr {K : PySem.W.Frag} : OpN K fRepr (rReprD K) := by
  intro Acc ι μ H ds xs e Q S r h q
  cases ds with
  | nil => cases h
  | cons d t =>
    cases t with
    | cons _ _ => cases h
    | nil =>
      obtain ⟨v, rs, rfl, h1, h2⟩ := r
      have h2 : rs = [] := h2
      subst h2
      simp only [fRepr] at h
      split at h
      case isFalse => cases h
      case isTrue hz =>
        cases h
        rw [Bool.and_eq_true] at hz
        exact ⟨_, d, v, rfl, h1, hz.1, hz.2, q _ H (.refl S) ⟨rfl, trivial⟩⟩
end VM
/-! sorted: lists of tuples of ints, of any lengths. -/
namespace VM
open PySem PySem.W L2 PyProof.Rows
open HT (lexLt)
theorem lex_asym : ∀ a b : List Int, lexLt a b = true → lexLt b a = false
  | [], [], h => by cases h
  | [], _ :: _, _ => rfl
  | _ :: _, [], h => by cases h
  | x :: xs, y :: ys, h => by
    rw [HT.lexLt_cons] at h ⊢
    by_cases e : x = y
    · subst e
      rw [if_pos rfl] at h ⊢
      exact lex_asym xs ys h
    · rw [if_neg e, decide_eq_true_eq] at h
      rw [if_neg (Ne.symm e)]
      exact decide_eq_false (by omega)
theorem lex_tr : ∀ a b c : List Int, lexLt b a = false → lexLt c b = false → lexLt c a = false
  | [], [], [], _, _ => rfl
  | [], [], _ :: _, _, _ => rfl
  | [], _ :: _, [], _, _ => rfl
  | [], _ :: _, _ :: _, _, _ => rfl
  | _ :: _, [], _, h, _ => by cases h
  | _ :: _, _ :: _, [], _, h => by cases h
  | x :: xs, y :: ys, z :: zs, h1, h2 => by
    rw [HT.lexLt_cons] at h1 h2 ⊢
    by_cases e1 : y = x
    · by_cases e2 : z = y
      · rw [if_pos e1] at h1
        rw [if_pos e2] at h2
        rw [if_pos (e2.trans e1)]
        exact lex_tr xs ys zs h1 h2
      · rw [if_neg e2] at h2
        have h2 := of_decide_eq_false h2
        rw [if_neg (by omega)]
        exact decide_eq_false (by omega)
    · rw [if_neg e1] at h1
      have h1 := of_decide_eq_false h1
      by_cases e2 : z = y
      · rw [if_neg (by omega)]
        exact decide_eq_false (by omega)
      · rw [if_neg e2] at h2
        have h2 := of_decide_eq_false h2
        rw [if_neg (by omega)]
        exact decide_eq_false (by omega)
theorem lex_eq : ∀ a b : List Int, lexLt a b = false → lexLt b a = false → a = b
  | [], [], _, _ => rfl
  | [], _ :: _, h, _ => by cases h
  | _ :: _, [], _, h => by cases h
  | x :: xs, y :: ys, h1, h2 => by
    rw [HT.lexLt_cons] at h1 h2
    by_cases e : x = y
    · subst e
      rw [if_pos rfl] at h1 h2
      rw [lex_eq xs ys h1 h2]
    · rw [if_neg e] at h1
      rw [if_neg (Ne.symm e)] at h2
      have h1 := of_decide_eq_false h1
      have h2 := of_decide_eq_false h2
      omega
theorem lex_swo (k : Value → List Int) : SrtO.Swo fun v u => lexLt (k v) (k u) := ⟨fun x y h => lex_asym _ _ h, fun x y z h1 h2 => lex_tr _ _ _ h1 h2⟩
section
variable {prog : Program} {w : World} {A : Around} {E : Value → Shared → Prop} {s : Shared}
theorem zip_lex {b : Bool} {Q : Bool → Shared → Prop} : ∀ (us vs : List Value) (ns ms : List Int) (i : Nat), IntsAre us ns → IntsAre vs ms → Q (lexLt ns ms) s → KatLex prog w A b (decide (us.length < vs.length)) Q (us.zip vs) i s
  | [], [], _, _, i, h1, h2, q => by
    cases h1; cases h2
    exact kat_nil q
  | [], _ :: _, _, _, i, h1, h2, q => by
    cases h1; cases h2
    exact kat_nil (by rw [decide_eq_true (by simp)]; exact q)
  | _ :: _, [], _, _, i, h1, h2, q => by
    cases h1; cases h2
    exact kat_nil (by rw [decide_eq_false (by simp)]; exact q)
  | u :: us, v :: vs, _, _, i, h1, h2, q => by
    cases h1 with
    | cons x t h1 =>
      cases h2 with
      | cons y t' h2 =>
        rw [HT.lexLt_cons] at q
        rw [List.zip_cons_cons]
        refine kat_cons (SeqAt.EqAt.int_int x t y t' prog w _ _ (kat_go (fun e => ?_) (fun e => ?_)))
        · have e : x = y := by simpa using e
          rw [if_pos e] at q
          refine kat_yes ?_
          have := zip_lex (b := b) us vs _ _ (i + 1) h1 h2 q
          rw [show decide ((Value.int x t :: us).length < (Value.int y t' :: vs).length) = decide (us.length < vs.length) from by simp]
          exact this
        · have e : ¬ x = y := by simpa using e
          rw [if_neg e] at q
          exact kat_no (oneLt_any_int q)
def TupsF (h : Heap) : List Value → List (Option Value) → Prop
  | [], [] => True
  | v :: vs, f :: fs => (∃ a o xs n, v = .ref a ∧ h.get? a = some o ∧ o.cls = .type "tuple" ∧ o.data = .seq xs n ∧ xs[0]? = f) ∧ TupsF h vs fs
  | _, _ => False
theorem firsts_any {M : Model} : ∀ (vs : List Value) (fs : List (Option Value)) {Q : List (Option Value) → Shared → Prop}, TupsF s.heap vs fs → Q fs s → wpAny M A (vs.mapM firstOfTuple') Q E s
  | [], [], _, _, h => by rw [List.mapM_nil]; exact wpAny_pure h
  | [], _ :: _, _, t, _ => t.elim
  | _ :: _, [], _, t, _ => t.elim
  | v :: vs, f :: fs, Q, t, h => by
    obtain ⟨⟨a, o, xs, n, rfl, ho, hc, hd, hf⟩, t⟩ := t
    rw [List.mapM_cons, kas_first_eq]
    refine wpAny_bind (wpAny_bind (Looks.here (show Looks M s.heap (typeOf (.ref a)) o.cls from (Looks.ld ho).andThen .now) ?_))
    rw [hc, if_neg (by first | decide | simp)]
    refine wpAny_bind (listItems_at ho hd (wpAny_pure ?_))
    rw [hf]
    exact wpAny_bind (firsts_any vs fs (Q := fun bs s' => wpAny M A (pure (f :: bs)) Q E s') t (wpAny_pure h))
theorem tupsF_of {h : Heap} {k : Value → List Int} : ∀ {vs : List Value}, (∀ v ∈ vs, TS.TupInts h v (k v)) → ∃ fs, TupsF h vs fs ∧ ∀ f ∈ fs, ∀ x, f = some x → ∃ i t, x = Value.int i t
  | [], _ => ⟨[], trivial, fun f hf => by simp at hf⟩
  | v :: vs, hv => by
    obtain ⟨a, xs, rfl, ⟨o, ho, hc, n, hd⟩, hi⟩ := hv v List.mem_cons_self
    obtain ⟨fs, h1, h2⟩ := tupsF_of fun u hu => hv u (List.mem_cons_of_mem _ hu)
    refine ⟨xs[0]? :: fs, ⟨⟨a, o, xs, n, rfl, ho, hc, hd, rfl⟩, h1⟩, fun f hf x e => ?_⟩
    rcases List.mem_cons.mp hf with rfl | hf
    · obtain ⟨l⟩ := xs
      cases l with
      | nil => simp at e
      | cons y l =>
        have e : y = x := by simpa using e
        subst e
        generalize k (Value.ref a) = ns at hi
        cases hi with
        | cons i t _ => exact ⟨_, _, rfl⟩
    · exact h2 f hf x e
theorem katTups_of {h : Heap} : ∀ {vs : List Value} {fs : List (Option Value)}, TupsF h vs fs → (fs.all fun x => x.isSome) = true → KatTups h vs (fs.filterMap id)
  | [], [], _, _ => trivial
  | [], _ :: _, t, _ => t.elim
  | _ :: _, [], t, _ => t.elim
  | v :: vs, f :: fs, t, hall => by
    rw [List.all_cons, Bool.and_eq_true] at hall
    cases f with
    | none => cases hall.1
    | some x => exact ⟨t.1, katTups_of t.2 hall.2⟩
theorem tup_at {v : Value} {ns : List Int} (h : TS.TupInts s.heap v ns) : ∃ a o xs n, v = .ref a ∧ s.heap.get? a = some o ∧ o.cls = .type "tuple" ∧ o.data = .seq xs n ∧ IntsAre xs.toList ns := by
  obtain ⟨a, xs, rfl, ⟨o, ho, hc, n, hd⟩, hi⟩ := h
  exact ⟨a, o, xs, n, rfl, ho, hc, hd, hi⟩
theorem lt_tuples {v u : Value} {ns ms : List Int} {b : Bool} {Q : Bool → Shared → Prop} (hv : TS.TupInts s.heap v ns) (hw : TS.TupInts s.heap u ms) (q : Q (lexLt ns ms) s) : wpAny (model prog w) A (keyLt' (tuples' b) v u) Q (fun _ _ => False) s := by
  obtain ⟨a, o, xs, n, rfl, ho, hc, hd, hi⟩ := tup_at hv
  obtain ⟨a2, o2, xs2, n2, rfl, ho2, hc2, hd2, hi2⟩ := tup_at hw
  refine kat_lt ho hd ho2 hd2 ?_
  rw [← Array.length_toList, ← Array.length_toList]
  exact zip_lex _ _ _ _ 0 hi hi2 q
theorem lt_general {v u : Value} {ns ms : List Int} {Q : Bool → Shared → Prop} (hu : A.units < cLine) (hv : TS.TupInts s.heap v ns) (hw : TS.TupInts s.heap u ms) (q : Q (lexLt ns ms) s) : wpAny (model prog w) A (keyLt' general' v u) Q (fun _ _ => False) s := by
  obtain ⟨a, xs, rfl, t, hi⟩ := hv
  obtain ⟨a2, xs2, rfl, t2, hi2⟩ := hw
  show wpAny (model prog w) A (oneLt' false (.ref a) (.ref a2)) Q (fun _ _ => False) s
  exact kat_one _ _ (HT.lt_tupInts t t2 hi hi2 hu q)
theorem lt_one {v u : Value} {ns ms : List Int} {Q : Bool → Shared → Prop} (hu : A.units < cLine) (hv : TS.TupInts s.heap v ns) (hw : TS.TupInts s.heap u ms) (q : Q (lexLt ns ms) s) : wpAny (model prog w) A (keyLt' oneType' v u) Q (fun _ _ => False) s := by
  obtain ⟨a, xs, rfl, ⟨⟨cls, dd, data, sl⟩, ho, hc, n, hd⟩, hi⟩ := hv
  obtain ⟨a2, xs2, rfl, ⟨⟨cls2, dd2, data2, sl2⟩, ho2, hc2, n2, hd2⟩, hi2⟩ := hw
  simp only at hc hd hc2 hd2
  subst hc hd hc2 hd2
  rw [keyLt'_oneType, oneLt'_eq]
  simp only [if_true]
  refine wpAny_bind (wpAny_cRoomFor hu ?_)
  refine wpAny_bind (wpAny_callSpecialIfBound?_slot ⟨_, ho, rfl⟩ PySem.F.slot_tuple_lt (call_meets PySem.F.slot_tuple_lt ⟨_, ho, rfl⟩ PySem.F.entry_tuple_lt (PySem.F.args_tuple_lt_2 _ _) (HT.tuple_lt_ints a a2 xs xs2 n n2 dd dd2 sl sl2 ns ms hi hi2) ⟨ho, ho2, ?_⟩))
  exact wpAny_truthy_bool q
end

section
variable {prog : Program} {w : World} {A : Around} {s : Shared}
theorem kind_tuples {vs : List Value} {k : Value → List Int} (h2 : 0 < vs.length) (hu : A.units < cLine) (hv : ∀ v ∈ vs, TS.TupInts s.heap v (k v)) : ∃ κ,
    (∀ (Q : SortKind → Shared → Prop) (E : Value → Shared → Prop), Q κ s → wpAny (model prog w) A (keyKind' vs.toArray) Q E s) ∧ SrtO.Cmp prog w A s κ (fun p => p.1 ∈ vs) (SrtO.lt2 fun v u => lexLt (k v) (k u)) := by
  obtain ⟨fs, tf, hf⟩ := tupsF_of hv
  by_cases hall : (fs.all fun x => x.isSome) = true
  · refine ⟨tuples' true, fun Q E q => ?_, fun p r hp hr => lt_tuples (hv _ hp) (hv _ hr) ⟨rfl, rfl⟩⟩
    have kt := katTups_of tf hall
    have hl : 0 < (fs.filterMap id).length := by
      cases vs with
      | nil => simp at h2
      | cons v vs =>
        cases fs with
        | nil => exact tf.elim
        | cons f fs =>
          rw [List.all_cons, Bool.and_eq_true] at hall
          cases f with
          | none => cases hall.1
          | some x => simp
    refine kat_kind (T := .type "int") kt hl (fun f hm => ?_) (by rfl) ?_
    · obtain ⟨o, ho, e⟩ := List.mem_filterMap.mp hm
      obtain ⟨i, t, rfl⟩ := hf o ho f e
      exact PySem.W.Looks.now
    · have e : (Value.type "int" != Value.type "tuple") = true := by first | decide +kernel | rfl | decide
      rw [e]
      exact q
  · have hall2 : ¬ (fs.toArray.all fun x => x.isSome) = true := by simpa using hall
    by_cases h0 : ((fs.toArray[0]?).bind id).isSome = true
    · refine ⟨general', fun Q E q => ?_, fun p r hp hr => lt_general hu (hv _ hp) (hv _ hr) ⟨rfl, rfl⟩⟩
      rw [kat_kind_eq, List.mapM_toArray, map_eq_pure_bind]
      refine wpAny_bind (wpAny_bind (firsts_any vs _ tf (wpAny_pure ?_)))
      rw [if_neg hall2, if_pos h0]
      exact wpAny_pure q
    · refine ⟨oneType', fun Q E q => ?_, fun p r hp hr => lt_one hu (hv _ hp) (hv _ hr) ⟨rfl, rfl⟩⟩
      rw [kat_kind_eq, List.mapM_toArray, map_eq_pure_bind]
      refine wpAny_bind (wpAny_bind (firsts_any vs _ tf (wpAny_pure ?_)))
      rw [if_neg hall2, if_neg h0]
      rw [oneTypeOnly'_eq, List.mapM_toArray, map_eq_pure_bind]
      refine wpAny_bind (wpAny_bind (wpAny_bind (kas_mapM (r := Value.type "tuple") _ (fun v hm Q' hq => ?_) (wpAny_pure ?_))))
      · obtain ⟨a, o, xs, n, rfl, ho, hc, _, _⟩ := tup_at (hv v hm)
        have lk : Looks (model prog w) s.heap (typeOf (.ref a)) o.cls := (Looks.ld ho).andThen .now
        rw [hc] at lk
        exact lk.here hq
      · obtain ⟨v, vr, rfl⟩ : ∃ v vr, vs = v :: vr := by
          cases vs with
          | nil => simp at h2
          | cons v vr => exact ⟨v, vr, rfl⟩
        have h00 : (List.map (fun _ => Value.type "tuple") (v :: vr)).toArray[0]? = some (Value.type "tuple") := by simp
        have ha : ((List.map (fun _ => Value.type "tuple") (v :: vr)).toArray.all fun x => x == Value.type "tuple") = true := by
          simp only [List.all_toArray, List.all_map, List.all_eq_true]
          intro _ _
          rfl
        rw [h00]
        simp only [ha, if_true]
        exact wpAny_pure (wpAny_pure q)
theorem tuples_sortable {a : Addr} {vs : List Value} {k : Value → List Int} (h2 : 0 < vs.length) (hu : A.units < cLine) (hv : ∀ v ∈ vs, TS.TupInts s.heap v (k v)) (ha : ∀ o, s.heap.get? a = some o → o.cls ≠ .type "tuple") :
    SrtO.SortableO prog w A s a vs fun v u => lexLt (k v) (k u) := by
  intro h' keep
  refine kind_tuples (s := { s with heap := h' }) h2 hu fun v hm => ?_
  obtain ⟨b, xs, e, ⟨o, ho, hc, hd⟩, hi⟩ := hv v hm
  exact ⟨b, xs, e, ⟨o, keep b o (fun z => by subst z; exact ha o ho hc) ho, hc, hd⟩, hi⟩
end
/-- sorted(xs), xs a list of tuples of ints, any number of them, of any lengths -/
def rSortT (K : PySem.W.Frag) : List V → Hp → VK → Prop := fun vs H Q => ∃ (a : Addr) (xs : List V), vs = [V.ref a] ∧ SqL K H a xs ∧ (∀ x ∈ xs, ∃ ns, TupI K H x ns) ∧
  ∀ (ys : List V) (p : Addr), (∀ x n m, TupI K H x n → TupI K H x m → n = m) → ys.Perm xs → ys.Pairwise (fun x y => ∀ n m, TupI K H x n → TupI K H y m → lexLt m n = false) → H p = none → Q (.ref p) (upd H p (.lst ys))
theorem call_sortT {X : Cx} (hu : X.A.units + 64 < cLine) : CallR X (.builtin "sorted") (rSortT X.K) := by
  intro pins s σ H vs us Q I r h
  obtain ⟨a, xs, rfl, hs, hx, q⟩ := h
  obtain ⟨its, rv, hl, hz⟩ := I.list hs
  obtain ⟨u, rfl, ru⟩ := vals1 r
  obtain rfl : u = Value.ref a := ru
  obtain ⟨e1, e2⟩ := refs_back rv fun x m => by
    obtain ⟨ns, t, e, _⟩ := hx x m
    exact ⟨t, e⟩
  have hT : ∀ v ∈ its, TS.TupInts s.heap v (TS.intsOf s.heap v) := fun v hm => by
    obtain ⟨t, rfl⟩ := e2 v hm
    have hm' : V.ref t ∈ xs := by rw [e1]; exact List.mem_map.mpr ⟨_, hm, rfl⟩
    obtain ⟨ns, t', e, ht⟩ := hx _ hm'
    cases e
    have z := tupI_raw I ht
    rw [z.ints]
    exact z
  refine SrtO.sorted_ord (lex_swo (TS.intsOf s.heap)) hl.isList (by rw [← rv.length]; exact hz) (fun h2 h₁ b hb kk => ?_) fun out h1 h2 => ?_
  · refine tuples_sortable (s := { s with heap := h₁ }) (by omega) (by show X.A.units + 1 + 1 < cLine; omega) (fun v hm => ?_) fun o e => ?_
    · obtain ⟨c, xs2, e, ⟨o, ho, hc, hd⟩, hi⟩ := hT v hm
      exact ⟨c, xs2, e, ⟨o, (kk c o ho).2, hc, hd⟩, hi⟩
    · have e' : some o = some (seqObj "list" its.toArray 0) := e.symm.trans hb
      cases e'
      intro c
      exact absurd (Value.type.inj c) (by decide)
  · have h3 : ∀ u ∈ out, ∃ a, u = Value.ref a := fun u hu => e2 u (h2.perm.mem_iff.mp hu)
    obtain ⟨n, hn⟩ := sortedAll_at s.heap its out.toArray
    have hp : (out.map backV).Perm xs := by
      rw [e1]
      exact h2.perm.map backV
    refine ⟨.ref _, upd H (s.heap.objs.size + 1) (.lst (out.map backV)), I.laid (t' := s.toks) (fun _ _ => sortedAll_old) (Nat.le_succ _) ⟨?_, out, n, vals_back h3, hn⟩, rfl, q _ _ (fun x n m h1 h2 => ?_) hp ?_ (I.hok.fresh (Nat.le_succ _))⟩
    · rw [hp.length_eq]
      exact hz
    · obtain ⟨t, rfl, z1⟩ := h1
      obtain ⟨t', e, z2⟩ := h2
      cases e
      exact (tupI_raw I z1).ints.symm.trans (tupI_raw I z2).ints
    · rw [List.pairwise_map]
      refine List.Pairwise.imp_of_mem (fun {u v} hu hv huv n m hn hm => ?_) h1
      obtain ⟨t, rfl⟩ := h3 u hu
      obtain ⟨t', rfl⟩ := h3 v hv
      obtain ⟨t1, e, ht⟩ := hn
      obtain ⟨t2, e', ht'⟩ := hm
      cases e
      cases e'
      have z1 := (tupI_raw I ht).ints
      have z2 := (tupI_raw I ht').ints
      rw [← z1, ← z2]
      exact huv

/-! ### on trees -/
def insL (x : List Int) : List (List Int) → List (List Int)
  | [] => [x]
  | y :: ys => if lexLt y x then y :: insL x ys else x :: y :: ys
def sortL : List (List Int) → List (List Int)
  | [] => []
  | x :: xs => insL x (sortL xs)
theorem insL_perm (x : List Int) : ∀ l, (insL x l).Perm (x :: l)
  | [] => .refl _
  | y :: ys => by
    unfold insL
    split
    · exact ((insL_perm x ys).cons y).trans (.swap x y ys)
    · exact .refl _
theorem sortL_perm : ∀ l, (sortL l).Perm l
  | [] => .refl _
  | x :: xs => by
    unfold sortL
    exact (insL_perm x _).trans ((sortL_perm xs).cons x)
abbrev SrtL (l : List (List Int)) : Prop := l.Pairwise fun a b => HT.lexLt b a = false
theorem insL_srt (x : List Int) : ∀ l, SrtL l → SrtL (insL x l)
  | [], _ => List.pairwise_singleton _ _
  | y :: ys, h => by
    obtain ⟨h1, h2⟩ := List.pairwise_cons.mp h
    unfold insL
    by_cases c : lexLt y x = true
    · rw [if_pos c]
      refine List.pairwise_cons.mpr ⟨fun z hz => ?_, insL_srt x ys h2⟩
      rcases List.mem_cons.mp ((insL_perm x ys).mem_iff.mp hz) with rfl | hz
      · exact lex_asym _ _ c
      · exact h1 z hz
    · rw [if_neg c]
      have c' : lexLt y x = false := by simpa using c
      refine List.pairwise_cons.mpr ⟨fun z hz => ?_, h⟩
      rcases List.mem_cons.mp hz with rfl | hz
      · exact c'
      · exact lex_tr _ _ _ c' (h1 z hz)
theorem sortL_srt : ∀ l, SrtL (sortL l)
  | [] => List.Pairwise.nil
  | x :: xs => insL_srt x _ (sortL_srt xs)
theorem srt_uniq : ∀ {l m : List (List Int)}, SrtL l → SrtL m → l.Perm m → l = m
  | [], m, _, _, p => by rw [List.Perm.nil_eq p]
  | x :: l, [], _, _, p => absurd p.symm.nil_eq (by simp)
  | x :: l, y :: m, h1, h2, p => by
    obtain ⟨a1, a2⟩ := List.pairwise_cons.mp h1
    obtain ⟨b1, b2⟩ := List.pairwise_cons.mp h2
    have e : x = y := by
      have c1 : lexLt y x = false := by
        rcases List.mem_cons.mp (p.mem_iff.mpr (List.mem_cons_self (a := y) (l := m))) with e | hy
        · rw [e]; exact (lex_swo (fun _ => x)).refl .none
        · exact a1 y hy
      have c2 : lexLt x y = false := by
        rcases List.mem_cons.mp (p.mem_iff.mp (List.mem_cons_self (a := x) (l := l))) with e | hy
        · rw [e]; exact (lex_swo (fun _ => y)).refl .none
        · exact b1 x hy
      exact lex_eq _ _ c2 c1
    subst e
    rw [srt_uniq a2 b2 p.cons_inv]
def intsD : List D → Option (List Int)
  | [] => some []
  | .int i :: ds => (intsD ds).map (i :: ·)
  | _ :: _ => none
def tupsD : List D → Option (List (List Int))
  | [] => some []
  | .tup es :: ds => match intsD es, tupsD ds with
    | some n, some r => some (n :: r)
    | _, _ => none
  | _ :: _ => none
def ofTup (ns : List Int) : D := .tup (ns.map .int)
theorem intsD_eq : ∀ {ds : List D} {ns : List Int}, intsD ds = some ns → ds = ns.map .int
  | [], ns, h => by cases h; rfl
  | d :: ds, ns, h => by
    cases d <;> simp only [intsD, reduceCtorEq] at h
    cases e : intsD ds with
    | none => rw [e] at h; cases h
    | some m =>
      rw [e] at h
      cases h
      rw [intsD_eq e]; rfl
theorem tupsD_eq : ∀ {ds : List D} {ns : List (List Int)}, tupsD ds = some ns → ds = ns.map ofTup
  | [], ns, h => by cases h; rfl
  | d :: ds, ns, h => by
    cases d <;> simp only [tupsD, reduceCtorEq] at h
    rename_i es
    cases e1 : intsD es with
    | none => rw [e1] at h; simp at h
    | some n =>
      cases e2 : tupsD ds with
      | none => rw [e1, e2] at h; simp at h
      | some r =>
        rw [e1, e2] at h
        simp only at h
        cases h
        rw [tupsD_eq e2, intsD_eq e1]; rfl
def fSorted : List D → Option EV
  | [.lst ds] => if ds.length ≤ LIM then (tupsD ds).map fun n => .new (.lst ((sortL n).map ofTup)) else none
  | _ => none
section
variable {K : PySem.W.Frag} {L : Addr → Prop} {H : Hp}
theorem rep_tupI {ns : List Int} {v : V} (r : Rep K L H (ofTup ns) v) : TupI K H v ns := by
  obtain ⟨a, vs, rfl, tp, rp⟩ := (by simpa only [ofTup, Rep] using r : ∃ a vs, v = .ref a ∧ TupN K L H a vs ∧ Reps K L H (ns.map D.int) vs)
  refine ⟨a, rfl, ?_⟩
  have : vs = ns.map V.int := by
    clear tp r
    induction ns generalizing vs with
    | nil => exact rp.invN
    | cons n ns ih =>
      obtain ⟨v, rs, rfl, h1, h2⟩ := rp.inv
      have : v = .int n := by simpa only [Rep] using h1
      rw [this, ih rs h2]; rfl
  rw [← this]
  exact tp.sq
theorem reps_all {ns : List (List Int)} {vs : List V} (r : Reps K L H (ns.map ofTup) vs) : ∀ x ∈ vs, ∃ n, TupI K H x n ∧ Rep K L H (ofTup n) x := by
  induction ns generalizing vs with
  | nil => rw [r.invN]; intro x hx; simp at hx
  | cons n ns ih =>
    obtain ⟨v, rs, rfl, h1, h2⟩ := r.inv
    intro x hx
    rcases List.mem_cons.mp hx with rfl | hx
    · exact ⟨n, rep_tupI h1, h1⟩
    · exact ih h2 x hx
theorem reps_fun {f : V → List Int} (hf : ∀ x n, TupI K H x n → f x = n) {ns : List (List Int)} {vs : List V} (r : Reps K L H (ns.map ofTup) vs) : vs.map f = ns := by
  induction ns generalizing vs with
  | nil => rw [r.invN]; rfl
  | cons n ns ih =>
    obtain ⟨v, rs, rfl, h1, h2⟩ := r.inv
    rw [List.map_cons, hf v n (rep_tupI h1), ih h2]
theorem of_fun {f : V → List Int} : ∀ {vs : List V}, (∀ x ∈ vs, Rep K L H (ofTup (f x)) x) → Reps K L H ((vs.map f).map ofTup) vs
  | [], _ => Reps.nil
  | v :: vs, h => Reps.cons (h v List.mem_cons_self) (of_fun fun x hx => h x (List.mem_cons_of_mem _ hx))
end
theorem on_sorted {K : PySem.W.Frag} : OpN K fSorted (rSortT K) := by
  intro Acc ι μ H ds xs e Q S r h q
  cases ds with
  | nil => cases h
  | cons d t =>
    cases t with
    | cons _ _ => cases d <;> cases h
    | nil =>
      obtain ⟨v, rs, rfl, h1, h2⟩ := r
      have h2 : rs = [] := h2
      subst h2
      cases d <;> try (cases h; done)
      rename_i ds
      obtain ⟨a, vs, rfl, tp, rp⟩ := seeL h1
      simp only [fSorted] at h
      split at h
      case isFalse => cases h
      case isTrue hz =>
        cases hT : tupsD ds with
        | none => rw [hT] at h; cases h
        | some ns =>
          rw [hT] at h
          cases h
          have ed := tupsD_eq hT
          subst ed
          refine ⟨a, vs, rfl, SqL.of tp, fun x hx => let ⟨n, h, _⟩ := reps_all rp x hx; ⟨n, h⟩, fun ys p uq hp hs np => ?_⟩
          -- each item's numbers
          let f : V → List Int := fun x => open Classical in if h : ∃ n, TupI K H x n then h.choose else []
          have hf : ∀ x n, TupI K H x n → f x = n := fun x n h => by
            have hx : ∃ n, TupI K H x n := ⟨n, h⟩
            show (open Classical in if h : ∃ n, TupI K H x n then h.choose else []) = n
            rw [dif_pos hx]
            exact uq x _ _ hx.choose_spec h
          have e1 : vs.map f = ns := reps_fun hf rp
          have hrep : ∀ x ∈ ys, Rep K (Liv Acc μ ι) H (ofTup (f x)) x := fun x hx => by
            obtain ⟨n, t, r⟩ := reps_all rp x (hp.mem_iff.mp hx)
            rw [hf x n t]; exact r
          have e2 : ys.map f = sortL ns := by
            refine srt_uniq ?_ (sortL_srt ns) ?_
            · rw [SrtL, List.pairwise_map]
              refine List.Pairwise.imp_of_mem (fun {x y} hx hy h => ?_) hs
              obtain ⟨n, t, _⟩ := reps_all rp x (hp.mem_iff.mp hx)
              obtain ⟨m, t', _⟩ := reps_all rp y (hp.mem_iff.mp hy)
              rw [hf x n t, hf y m t']
              exact h n m t t'
            · rw [← e1]
              exact (hp.map f).trans (by rw [e1]; exact (sortL_perm ns).symm)
          have rr := of_fun hrep
          rw [e2] at rr
          exact q (.ref p) _ (S.up np _) ⟨⟨p, rfl, np, S.newL np rr⟩, S.ownN np rr⟩
end VM
/-! Words for the printed walks. -/
namespace VM
open PySem L2 PyProof.Rows
section
variable {X : Cx} {XC : Nat → Addr} {F : Fns} {W : WX} {a b c e tg iter : Expr} {es : List Expr} {fa fb fc fe : SE} {pos p p1 : Pos} {x : Str}
theorem w_v (i : Nat) (hN : X.N[i]? = some x := by rfl) (hv : Vis X.env.scope x := by first | exact Or.inl rfl | exact Or.inr (Or.inl rfl) | exact Or.inr (Or.inr rfl)) (hd : (x == ("__debug__" : Str)) = false := by decide) (hcd : (x == ("__classdict__" : Str)) = false := by decide) : PE X (.Name x pos) (rdE X.K XC F W (eV i)) := c_var hN hv hd hcd
/-- a constant of the module, as the top holds it -/
def HasC (mg : Str → Option Value) (x : Str) (v : V) : Prop := ∃ u, mg x = some u ∧ RelV v u
theorem w_gs {y : Str} (h : HasC X.mg x (.str y)) (hg : Gl X x := by rfl) (hd : (x == ("__debug__" : Str)) = false := by decide) : PE X (.Name x pos) (rdE X.K XC F W (eC (.str y))) :=
  let ⟨_, h1, h2⟩ := h; c_glob hg h1 h2 (fun _ _ => by simp only [Rep]) hd
theorem w_gi {y : Int} (h : HasC X.mg x (.int y)) (hg : Gl X x := by rfl) (hd : (x == ("__debug__" : Str)) = false := by decide) : PE X (.Name x pos) (rdE X.K XC F W (eC (.int y))) :=
  let ⟨_, h1, h2⟩ := h; c_glob hg h1 h2 (fun _ _ => by simp only [Rep]) hd
theorem w_bin {op : Operator} (ha : PE X a (rdE X.K XC F W fa)) (hb : PE X b (rdE X.K XC F W fb)) : PE X (.BinOp a op b pos) (rdE X.K XC F W (eBin op fa fb)) := let ⟨_, h1, h2⟩ := bin_ok X op; c_bin h1 h2 ha hb
theorem w_cmp {op : CmpOp} (hu : X.A.units + 65 < cLine) (ha : PE X a (rdE X.K XC F W fa)) (hb : PE X b (rdE X.K XC F W fb)) (hm : behindInMarks op b = false := by rfl) : PE X (.Compare a [op] [b] pos) (rdE X.K XC F W (eCmp (opCmp op) fa fb)) := let ⟨_, h1, h2⟩ := cmp_ok X hu op; c_cmp h1 h2 ha hb hm
theorem wt_cmp {op : CmpOp} (hu : X.A.units + 65 < cLine) (ha : PE X a (rdE X.K XC F W fa)) (hb : PE X b (rdE X.K XC F W fb)) (hm : behindInMarks op b = false := by rfl) : PT X (.Compare a [op] [b] pos) (rdB X.K XC F W (bCmp (opCmp op) fa fb)) := let ⟨_, h1, h2⟩ := cmp_ok X hu op; ct_cmp h1 h2 ha hb hm
theorem w_chain {op op' : CmpOp} (hu : X.A.units + 65 < cLine) (ha : PE X a (rdE X.K XC F W fa)) (hb : PE X b (rdE X.K XC F W fb)) (hc : PE X c (rdE X.K XC F W fc)) (hm : lastMarks [op, op'] [b, c] = false := by rfl) : PE X (.Compare a [op, op'] [b, c] pos) (rdE X.K XC F W (eChain (opCmp op) (opCmp op') fa fb fc)) :=
  let ⟨_, h1, h2⟩ := cmp_ok X hu op; let ⟨_, h3, h4⟩ := cmp_ok X hu op'; c_chain h1 h2 h3 h4 ha hb hc hm
theorem wt_chain {op op' : CmpOp} (hu : X.A.units + 65 < cLine) (ha : PE X a (rdE X.K XC F W fa)) (hb : PE X b (rdE X.K XC F W fb)) (hc : PE X c (rdE X.K XC F W fc)) (hm : lastMarks [op, op'] [b, c] = false := by rfl) : PT X (.Compare a [op, op'] [b, c] pos) (rdB X.K XC F W (bChain (opCmp op) (opCmp op') fa fb fc)) :=
  let ⟨_, h1, h2⟩ := cmp_ok X hu op; let ⟨_, h3, h4⟩ := cmp_ok X hu op'; ct_chain h1 h2 h3 h4 ha hb hc hm
theorem wt_tru (ha : PE X a (rdE X.K XC F W fa)) (he : ∀ whole, isTrue a X.env whole = (do let v ← whole; standAt a.pos; holding [v] (truthy v)) := by intro _; rfl) : PT X a (rdB X.K XC F W (bTru fa)) := ct_tru ha he
theorem w_ix (hu : X.A.units + 65 < cLine) (ha : PE X a (rdE X.K XC F W fa)) (hb : PE X b (rdE X.K XC F W fb)) (hs : PlainIx b := by intro _ _; rfl) : PE X (.Subscript a b pos) (rdE X.K XC F W (eIx fa fb)) := c_ix (by omega) ha hb hs
theorem w_isi (T : Ty) {t : Str} (hm : X.mg "isinstance" = none) (ht : PE X (.Name t p1) (tC (.ty T.name))) (ha : PE X e (rdE X.K XC F W fa)) (hg : Gl X "isinstance" := by rfl) (he : starEach [e, .Name t p1] X.env = (false, eval e X.env) :: starEach [.Name t p1] X.env := by rfl) :
    PE X (.Call (.Name "isinstance" p) [e, .Name t p1] [] pos) (rdE X.K XC F W (eIsi T fa)) := c_isi hg hm ht ha he
theorem w_fn {id : String} {r : List V → Hp → VK → Prop} {f : List D → Option EV} {fs : SA} (hc : CallR X (.builtin id) r) (ho : OpN X.K f r) (hv : bootBuiltins x = some (.builtin id)) (hm : X.mg x = none) (ha : PA X (e :: es) (rdA X.K XC F W fs)) (hg : Gl X x := by rfl) (hn : x ≠ "__name__" := by decide) (hdb : (x == ("__debug__" : Str)) = false := by decide)
    (he : starEach (e :: es) X.env = (false, eval e X.env) :: starEach es X.env := by rfl) (hpl : (backTo pos (starEach es X.env)).any (·.1) = false := by rfl) : PE X (.Call (.Name x p) (e :: es) [] pos) (rdE X.K XC F W (eCb f fs)) := c_callB hc ho hg hm hv ha hn hdb he hpl
theorem w_ty {T : String} {r : List V → Hp → VK → Prop} {f : List D → Option EV} {fs : SA} (hc : CallR X (.type T) r) (ho : OpN X.K f r) (hv : bootBuiltins x = some (.type T)) (hm : X.mg x = none) (ha : PA X (e :: es) (rdA X.K XC F W fs)) (hg : Gl X x := by rfl) (hn : x ≠ "__name__" := by decide) (hdb : (x == ("__debug__" : Str)) = false := by decide)
    (he : starEach (e :: es) X.env = (false, eval e X.env) :: starEach es X.env := by rfl) (hpl : (backTo pos (starEach es X.env)).any (·.1) = false := by rfl) : PE X (.Call (.Name x p) (e :: es) [] pos) (rdE X.K XC F W (eCb f fs)) := c_callTy hc ho hg hm hv ha hn hdb he hpl
theorem c_and1 (ha : PE X a (rdE X.K XC F W fa)) : PE X (.BoolOp .And [a] pos) (rdE X.K XC F W fa) := ⟨fun pins s σ H Q I h => BoolOp_one (ha.run pins s σ H Q I h)⟩
theorem c_or1 (ha : PE X a (rdE X.K XC F W fa)) : PE X (.BoolOp .Or [a] pos) (rdE X.K XC F W fa) := ⟨fun pins s σ H Q I h => BoolOp_one (ha.run pins s σ H Q I h)⟩
theorem a0 : PA X [] (rdA X.K XC F W (evs [])) := ca_nil
theorem a1 {fs : List SE} (ha : PE X e (rdE X.K XC F W fe)) (hr : PA X es (rdA X.K XC F W (evs fs))) (hs : starEach (e :: es) X.env = (false, eval e X.env) :: starEach es X.env := by rfl) : PA X (e :: es) (rdA X.K XC F W (evs (fe :: fs))) := ca_cons ha hr hs
theorem w_r1 {fa : SE} (hm : X.mg "range" = none) (ha : PE X a (rdE X.K XC F W fa)) (hg : Gl X "range" := by rfl) (hs : starEach [a] X.env = [(false, eval a X.env)] := by rfl) : PI X tg (.Call (.Name "range" p) [a] [] pos) (rdI X.K XC F W (iRange (evs [fa]))) :=
  ci_range1 hg hm (ca_cons ha ca_nil hs) hs fun F ρ μ vs μ' h => evs_len _ _ _ _ _ _ h
theorem w_r2 {fa fb : SE} (hm : X.mg "range" = none) (ha : PE X a (rdE X.K XC F W fa)) (hb : PE X b (rdE X.K XC F W fb)) (hg : Gl X "range" := by rfl) (hs : starEach [a, b] X.env = [(false, eval a X.env), (false, eval b X.env)] := by rfl) (hs2 : starEach [b] X.env = [(false, eval b X.env)] := by rfl) : PI X tg (.Call (.Name "range" p) [a, b] [] pos) (rdI X.K XC F W (iRange (evs [fa, fb]))) :=
  ci_range2 hg hm (ca_cons ha (ca_cons hb ca_nil hs2) (by rw [hs, hs2])) hs hs2 fun F ρ μ vs μ' h => evs_len _ _ _ _ _ _ h
theorem w_r3 {fa fb fc : SE} (hm : X.mg "range" = none) (ha : PE X a (rdE X.K XC F W fa)) (hb : PE X b (rdE X.K XC F W fb)) (hc : PE X c (rdE X.K XC F W fc)) (hg : Gl X "range" := by rfl) (hs : starEach [a, b, c] X.env = (false, eval a X.env) :: starEach [b, c] X.env := by rfl) (hs2 : starEach [b, c] X.env = (false, eval b X.env) :: starEach [c] X.env := by rfl)
    (hs3 : starEach [c] X.env = (false, eval c X.env) :: starEach [] X.env := by rfl) (hpl : (backTo pos (starEach [b, c] X.env)).any (·.1) = false := by rfl) : PI X tg (.Call (.Name "range" p) [a, b, c] [] pos) (rdI X.K XC F W (iRange (evs [fa, fb, fc]))) :=
  ci_range3 hg hm (ca_cons ha (ca_cons hb (ca_cons hc ca_nil hs3) hs2) hs) hs hpl fun F ρ μ vs μ' h => evs_len _ _ _ _ _ _ h
end
theorem lt1 {a b : Nat} (h : a + 65 < b) : a + 1 < b := by omega
theorem lt64 {a b : Nat} (h : a + 65 < b) : a + 64 < b := by omega
theorem hu65 {A : Around} {k : Nat} (hr : Room k A) : A.units + 65 < cLine := by have := hr.un; omega
theorem hu152 {A : Around} {k : Nat} (hr : Room k A) : A.units + 152 < cLine := by have := hr.un; omega
theorem fn_same {K : PySem.W.Frag} {x : Str} {st : Stmt} {f : Addr} {fd fd' : FuncData} (F : Fun K x x st f fd) (F' : Fun K x x st f fd') : fd = fd' := by
  obtain ⟨oc, od, _, _, _, _, _, _, osl, _, h, _⟩ := F.ex
  obtain ⟨oc', od', _, _, _, _, _, _, osl', _, h', _⟩ := F'.ex
  rw [h] at h'
  cases h'
  rfl
/-- the promise of the law itself -/
theorem law_fn {P : Program} {w : World} {K : PySem.W.Frag} {mg : Str → Option Value} {base : Heap} {XC : Nat → Addr} {F : Fns} {n i : Nat} {x : Str} {ps : List Str} {st : Stmt} {f : Addr} {fd : FuncData} (G : FnR P w K mg base XC F n i x ps st) (FF : Fun K x x st f fd) (hm : mg x = some (.ref f)) :
    FnG P w K mg base CX0 n f fd ps (spF K XC F i ps.length) := by
  obtain ⟨f', fd', F', m', _, g⟩ := G.ex
  rw [hm] at m'
  cases m'
  rw [fn_same FF F']
  exact g
theorem law_sp {K : PySem.W.Frag} {XC : Nat → Addr} {F : Fns} {i : Nat} {H : Hp} {a : Addr} {ns : List Int} (hS : SqL K H a (ns.map V.int)) (h : ∃ μ, F i [.dat (.scr ns)] [] = .ok (.dat (.bl true)) μ) : spF K XC F i 1 [.ref a] H (fun v _ => v = .bl true) fun _ _ _ => False := by
  obtain ⟨μ, h⟩ := h
  have S : Sim K (fun _ => False) [] [] H := ⟨rfl, List.nodup_nil, fun a h => h.elim, fun k c h => by simp at h⟩
  refine ⟨rfl, fun _ => False, [], [], [.dat (.scr ns)], S, ⟨.ref a, [], rfl, ?_, rfl⟩, ?_⟩
  · refine (?_ : ∃ a', V.ref a = .ref a' ∧ LstN K (Liv (fun _ => False) [] []) H a' (ns.map V.int))
    refine ⟨a, rfl, ?_⟩
    rcases hS with h | h
    · refine .inl ⟨h, fun z => ?_⟩
      rcases z with ⟨k, c, h, _⟩ | z
      · simp at h
      · exact z
    · exact .inr h
  · rw [h]
    intro b H' _ r
    exact r.1
end VM
/-! What the small programs compute, as rewriting rules. -/
namespace VM
section
variable {F : Fns} {ρ : Env} {μ : Sto} {f g h : SE} {t u : SB} {fs : List SE} {i j k l : Nat} {a b c : SS} {d : D} {e1 e2 : EV}
@[simp] theorem Res.bind_ok {α β : Type} {a : α} {f : α → Sto → Res β} : (Res.ok a μ).bind f = f a μ := rfl
@[simp] theorem Res.bind_bad {α β : Type} {f : α → Sto → Res β} : (Res.bad : Res α).bind f = .bad := rfl
@[simp] theorem Res.nox_ok {α : Type} {a : α} : (Res.ok a μ).nox = .ok a μ := rfl
@[simp] theorem see_dat : (EV.dat d).see μ = some d := rfl
@[simp] theorem see_new {c : CV} : (EV.new c).see μ = some c.toD := rfl
@[simp] theorem toD_lst {ds : List D} : (CV.lst ds).toD = .lst ds := rfl
@[simp] theorem toD_dic {ks : List L2.Key} {ds : List D} : (CV.dic ks ds).toD = .dic ks ds := rfl
@[simp] theorem frz_dat : (EV.dat d).frz μ = some (d, μ) := rfl
@[simp] theorem frz_new {c : CV} : (EV.new c).frz μ = some (c.toD, μ) := rfl
@[simp] theorem bnd_dat : (EV.dat d).bnd μ = (.dat d, μ) := rfl
@[simp] theorem bnd_cel : (EV.cel k).bnd μ = (.cel k, μ) := rfl
@[simp] theorem bnd_new {c : CV} : (EV.new c).bnd μ = (.cel μ.length, μ ++ [⟨true, c⟩]) := rfl
@[simp] theorem ev_dat : (SV.dat d).ev = .dat d := rfl
@[simp] theorem ev_cel : (SV.cel k).ev = .cel k := rfl
@[simp] theorem arg_dat : (EV.dat d).arg = .dat d := rfl
@[simp] theorem arg_cel : (EV.cel k).arg = .cel k := rfl
@[simp] theorem arg_new {c : CV} : (EV.new c).arg = .dat c.toD := rfl
theorem see_cel {c : Cell} (h : μ[k]? = some c) : (EV.cel k).see μ = some c.val.toD := by
  show (match μ[k]? with | some c => some c.val.toD | none => none) = _
  rw [h]
@[simp] theorem frzs_nil : frzs [] μ = some ([], μ) := rfl
@[simp] theorem frzs_cons {es : List EV} : frzs (e1 :: es) μ = match e1.frz μ with
  | some (d, μ1) => match frzs es μ1 with
    | some (ds, μ2) => some (d :: ds, μ2)
    | none => none
  | none => none := rfl
@[simp] theorem x_C : eC d F ρ μ = .ok (.dat d) μ := rfl
@[simp] theorem x_V : eV i F ρ μ = match ρ[i]? with
  | some (some s) => .ok s.ev μ
  | _ => .bad := rfl
@[simp] theorem x_evs0 : evs [] F ρ μ = .ok [] μ := rfl
@[simp] theorem x_evs : evs (f :: fs) F ρ μ = (f F ρ μ).bind fun v μ1 => (evs fs F ρ μ1).bind fun vs μ2 => .ok (v :: vs) μ2 := rfl
@[simp] theorem x_tup {fa : SA} : eTup fa F ρ μ = (fa F ρ μ).bind fun vs μ1 => match frzs vs μ1 with
  | some (ds, μ2) => if ds.length ≤ LIM then .ok (.dat (.tup ds)) μ2 else .bad
  | none => .bad := rfl
@[simp] theorem x_lst {fa : SA} : eLst fa F ρ μ = (fa F ρ μ).bind fun vs μ1 => match frzs vs μ1 with
  | some (ds, μ2) => if ds.length ≤ LIM then .ok (.new (.lst ds)) μ2 else .bad
  | none => .bad := rfl
@[simp] theorem x_bin {op : PySem.Operator} : eBin op f g F ρ μ = (f F ρ μ).bind fun a μ1 => (g F ρ μ1).bind fun b μ2 => lift2 (opBin op) a b μ2 := rfl
@[simp] theorem x_cmp {p : D → D → Option Bool} : eCmp p f g F ρ μ = (f F ρ μ).bind fun a μ1 => (g F ρ μ1).bind fun b μ2 => lift2 (fun a b => (p a b).map fun k => .dat (.bl k)) a b μ2 := rfl
@[simp] theorem xt_cmp {p : D → D → Option Bool} : bCmp p f g F ρ μ = (f F ρ μ).bind fun a μ1 => (g F ρ μ1).bind fun b μ2 => lift2B p a b μ2 := rfl
@[simp] theorem x_ix : eIx f g F ρ μ = (f F ρ μ).bind fun a μ1 => (g F ρ μ1).bind fun b μ2 => lift2 opIx a b μ2 := rfl
@[simp] theorem x_lift2 {p : D → D → Option EV} : lift2 p e1 e2 μ = match e1.see μ, e2.see μ with
  | some x, some y => match p x y with
    | some e => .ok e μ
    | none => .bad
  | _, _ => .bad := rfl
@[simp] theorem x_lift2B {p : D → D → Option Bool} : lift2B p e1 e2 μ = match e1.see μ, e2.see μ with
  | some x, some y => match p x y with
    | some e => .ok e μ
    | none => .bad
  | _, _ => .bad := rfl
@[simp] theorem x_cb {p : List D → Option EV} {fa : SA} : eCb p fa F ρ μ = (fa F ρ μ).bind fun vs μ1 => liftN p vs μ1 := rfl
@[simp] theorem x_liftN {p : List D → Option EV} {vs : List EV} : liftN p vs μ = match sees vs μ with
  | some ds => match p ds with
    | some e => .ok e μ
    | none => .bad
  | none => .bad := rfl
@[simp] theorem sees_nil : sees [] μ = some [] := rfl
@[simp] theorem sees_cons {es : List EV} : sees (e1 :: es) μ = match e1.see μ, sees es μ with
  | some d, some ds => some (d :: ds)
  | _, _ => none := rfl
@[simp] theorem x_isi {T : Ty} : eIsi T f F ρ μ = (f F ρ μ).bind fun v μ1 => match v.see μ1 with
  | some d => .ok (.dat (.bl (isi T d))) μ1
  | none => .bad := rfl
@[simp] theorem x_call {fa : SA} : eCall i fa F ρ μ = (fa F ρ μ).bind fun vs μ1 => F i (vs.map EV.arg) μ1 := rfl
@[simp] theorem x_callK {fa fk : SA} {perm : List Nat} : eCallK i fa fk perm F ρ μ = (fa F ρ μ).bind fun vs μ1 => (fk F ρ μ1).bind fun zs μ2 => F i ((perm.filterMap fun i => (vs ++ zs)[i]?).map EV.arg) μ2 := rfl
@[simp] theorem xt_tru : bTru f F ρ μ = (f F ρ μ).bind truR := rfl
@[simp] theorem x_truR : truR e1 μ = match e1.see μ with
  | some d => match tru d with
    | some k => .ok k μ
    | none => .bad
  | none => .bad := rfl
@[simp] theorem xt_not : bNot t F ρ μ = (t F ρ μ).bind fun k μ1 => .ok (!k) μ1 := rfl
@[simp] theorem xt_and : bAnd t u F ρ μ = (t F ρ μ).bind fun k μ1 => match k with
  | true => u F ρ μ1
  | false => .ok false μ1 := rfl
@[simp] theorem xt_or : bOr t u F ρ μ = (t F ρ μ).bind fun k μ1 => match k with
  | true => .ok true μ1
  | false => u F ρ μ1 := rfl
@[simp] theorem x_and : eAnd f g F ρ μ = (f F ρ μ).bind fun v μ1 => (truR v μ1).bind fun k μ2 => match k with
  | true => g F ρ μ2
  | false => .ok v μ2 := rfl
@[simp] theorem x_or : eOr f g F ρ μ = (f F ρ μ).bind fun v μ1 => (truR v μ1).bind fun k μ2 => match k with
  | true => .ok v μ2
  | false => g F ρ μ2 := rfl
@[simp] theorem x_not : eNot f F ρ μ = (f F ρ μ).bind fun v μ1 => (truR v μ1).bind fun k μ2 => .ok (.dat (.bl (!k))) μ2 := rfl
@[simp] theorem x_if : eIf t f g F ρ μ = (t F ρ μ).bind fun k μ1 => match k with
  | true => f F ρ μ1
  | false => g F ρ μ1 := rfl
@[simp] theorem x_yes : bYes F ρ μ = .ok true μ := rfl
@[simp] theorem xs_seq : sSeq a b F ρ μ = match a F ρ μ with
  | .ok (.nx ρ1) μ1 => b F ρ1 μ1
  | r => r := rfl
@[simp] theorem xs_pass : sPass F ρ μ = .ok (.nx ρ) μ := rfl
@[simp] theorem xs_drop : sDrop f F ρ μ = (f F ρ μ).bind fun _ μ1 => .ok (.nx ρ) μ1 := rfl
@[simp] theorem xs_ret : sRet f F ρ μ = (f F ρ μ).bind fun v μ1 => .ok (.rt v) μ1 := rfl
@[simp] theorem xs_if : sIf t a b F ρ μ = (t F ρ μ).bind fun k μ1 => match k with
  | true => a F ρ μ1
  | false => b F ρ μ1 := rfl
@[simp] theorem xs_set : sSet i f F ρ μ = (f F ρ μ).bind fun v μ1 => .ok (.nx (ρ.set i (some (v.bnd μ1).1))) (v.bnd μ1).2 := rfl
@[simp] theorem xs_par : sPar i j f g F ρ μ = (f F ρ μ).bind fun v μ1 => (g F ρ (v.bnd μ1).2).bind fun w μ2 => .ok (.nx ((ρ.set i (some (v.bnd μ1).1)).set j (some (w.bnd μ2).1))) (w.bnd μ2).2 := rfl
@[simp] theorem xs_asg {p : SG} : sAsg f p F ρ μ = (f F ρ μ).bind fun v μ1 => match v.frz μ1 with
  | some (d, μ2) => (p d F ρ μ2).bind fun ρ1 μ3 => .ok (.nx ρ1) μ3
  | none => .bad := rfl
@[simp] theorem xg_nm : gNm i d F ρ μ = .ok (ρ.set i (some (.dat d))) μ := rfl
@[simp] theorem xg_tp {gs : List SG} {ds : List D} : gTp gs (.tup ds) F ρ μ = if ds.length = gs.length then sgs gs ds F ρ μ else .bad := rfl
@[simp] theorem xg_nil : sgs [] [] F ρ μ = .ok ρ μ := rfl
@[simp] theorem xg_cons {p : SG} {gs : List SG} {ds : List D} : sgs (p :: gs) (d :: ds) F ρ μ = (p d F ρ μ).bind fun ρ1 μ1 => sgs gs ds F ρ1 μ1 := rfl
@[simp] theorem xs_while : sWhile t a F ρ μ = whL (t F) (a F) LIM ρ μ := rfl
@[simp] theorem xs_for {it : SI} {p : SG} : sFor it p a F ρ μ = (it F ρ μ).bind fun s μ1 => forL F s p a (s.len μ1 + 1) 0 ρ μ1 := rfl
@[simp] theorem xi_of : iOf f F ρ μ = (f F ρ μ).bind fun v μ1 => match srcOf v μ1 with
  | some s => .ok s μ1
  | none => .bad := rfl
@[simp] theorem xi_enm : iEnm f F ρ μ = (f F ρ μ).bind fun v μ1 => match isTx v, srcOf v μ1 with
  | false, some s => .ok s.enum μ1
  | _, _ => .bad := rfl
@[simp] theorem xi_rng {fa : SA} : iRange fa F ρ μ = (fa F ρ μ).bind fun vs μ1 => match rangeOf vs with
  | some s => .ok s μ1
  | none => .bad := rfl
@[simp] theorem x_lc {it : SI} {tg : Tgt} {own : List Nat} : eLc it tg t f own F ρ μ = (it F ρ μ).bind fun s μ1 => (lcLoop s (lcStep F tg t f (wipeE ρ own)) (s.len μ1 + 1) 0 μ1).bind fun ds μ2 => if ds.length ≤ LIM then .ok (.new (.lst ds)) μ2 else .bad := rfl
@[simp] theorem x_rev : eRev f F ρ μ = (f F ρ μ).bind fun v μ1 => match v.see μ1 with
  | some (.lst ds) => .ok (.new (.lst ds.reverse)) μ1
  | some (.tup ds) => .ok (.dat (.tup ds.reverse)) μ1
  | _ => .bad := rfl
@[simp] theorem x_sl {l h : SOp} : eSl f l h F ρ μ = (f F ρ μ).bind fun a μ1 => (l F ρ μ1).bind fun lo μ2 => (h F ρ μ2).bind fun hi μ3 => match a.see μ3 with
  | some d => match opSl d lo hi with
    | some e => .ok e μ3
    | none => .bad
  | none => .bad := rfl
@[simp] theorem x_dict0 : eDict0 F ρ μ = .ok (.new (.dic [] [])) μ := rfl
@[simp] theorem src_vals {ds : List D} : (Src.vals ds).at μ = some ds := rfl
@[simp] theorem src_len {ds : List D} : (Src.vals ds).len μ = ds.length := rfl
end

/-! ### stores -/
section
variable {μ r : Sto} {c d c' : Cell}
@[simp] theorem get_a0 : (μ ++ c :: r)[μ.length]? = some c := by rw [List.getElem?_append_right (Nat.le_refl _), Nat.sub_self]; rfl
@[simp] theorem get_a1 : (μ ++ c :: d :: r)[μ.length + 1]? = some d := by
  rw [List.getElem?_append_right (Nat.le_succ _), show μ.length + 1 - μ.length = 1 by omega]; rfl
@[simp] theorem set_a0 : (μ ++ c :: r).set μ.length c' = μ ++ c' :: r := by
  rw [List.set_append_right _ _ (Nat.le_refl _), Nat.sub_self]; rfl
@[simp] theorem set_a1 : (μ ++ c :: d :: r).set (μ.length + 1) c' = μ ++ c :: c' :: r := by
  rw [List.set_append_right _ _ (Nat.le_succ _), show μ.length + 1 - μ.length = 1 by omega]; rfl
@[simp] theorem take_a : (μ ++ r).take μ.length = μ := by simp
end

/-! ### loops -/
theorem lc_pure {s : List D} {step : D → Sto → Res (Option D)} {g : D → Option D} {μ : Sto} (h : ∀ d ∈ s, step d μ = .ok (g d) μ) : ∀ (n i : Nat), i ≤ s.length → s.length < i + n → s.length ≤ LIM → lcLoop (.vals s) step n i μ = .ok ((s.drop i).filterMap g) μ
  | 0, i, hi, hn, hl => by omega
  | n + 1, i, hi, hn, hl => by
    unfold lcLoop
    simp only [src_vals]
    cases e : s[i]? with
    | none =>
      have hi : s.length ≤ i := List.getElem?_eq_none_iff.mp e
      rw [List.drop_eq_nil_of_le hi]; rfl
    | some d =>
      have hi : i < s.length := (List.getElem?_eq_some_iff.mp e).1
      have hd : d ∈ s := List.mem_of_getElem? e
      simp only
      rw [if_pos (by omega), h d hd, Res.bind_ok, lc_pure h n (i + 1) (by omega) (by omega) hl, Res.bind_ok]
      have e2 : s.drop i = d :: s.drop (i + 1) := by
        rw [List.drop_eq_getElem_cons hi]
        congr 1
        exact (List.getElem?_eq_some_iff.mp e).2
      rw [e2, List.filterMap_cons]
      cases g d <;> rfl
end VM
namespace VM
section
variable {F : Fns} {ρ : Env} {μ : Sto} {f g : SE} {t : SB} {o : SE} {fa : SA} {act : Act}
@[simp] theorem x_cm : eCM act o fa F ρ μ = (o F ρ μ).bind fun v μ1 => match v with
  | .cel k => match μ1[k]? with
    | some c0 => match c0.val with
      | .lst _ => (fa F ρ μ1).bind fun vs μ2 => match frzs vs μ2 with
        | some (args, μ3) => match μ3[k]? with
          | some c => match c.live, c.val with
            | true, .lst ds => match act ds args with
              | some (r, ds') => .ok (.dat r) (μ3.set k ⟨true, .lst ds'⟩)
              | none => .bad
            | _, _ => .bad
          | none => .bad
        | none => .bad
      | _ => .bad
    | none => .bad
  | _ => .bad := rfl
@[simp] theorem aPop_c {l : List D} {d : D} : aPop (l ++ [d]) [] = some (d, l) := by
  unfold aPop
  simp
theorem aAppend_c {l : List D} {d : D} (h : l.length < LIM) : aAppend l [d] = some (.non, l ++ [d]) := if_pos h
theorem aExtend_c {l e : List D} (h : l.length + e.length ≤ LIM) : aExtend l [.lst e] = some (.non, l ++ e) := if_pos h
@[simp] theorem x_step {tg : Tgt} {d : D} : lcStep F tg t f ρ d μ = match asg tg d ρ with
  | none => .bad
  | some ρ => (t F ρ μ).nox.bind fun b μ1 => match b with
    | true => (f F ρ μ1).nox.bind fun v μ2 => match v.frz μ2 with
      | some (x, μ3) => .ok (some x) μ3
      | none => .bad
    | false => .ok none μ1 := rfl
end
/-- a list of things still to be looked at, from the end on -/
def stk {α : Type} (enc : α → D) (μ : Sto) (Fd : List D) (L : List α) : Sto := μ ++ [⟨true, .lst Fd⟩, ⟨true, .lst (L.map enc).reverse⟩]
theorem stack_loop {α : Type} (enc : α → D) (out : α → List D) (kids : α → List α) (all : α → List D) (size : α → Nat) (good : α → Prop) (okρ : Env → Prop) (B : Nat) {c : Env → Sto → Res Bool} {b : Env → Sto → Res SO} {μ : Sto}
    (hall : ∀ x, good x → all x = out x ++ (kids x).flatMap all) (hsz : ∀ x, good x → 1 + ((kids x).map size).sum ≤ size x) (hout : ∀ x, good x → (out x).length + ((kids x).map size).sum ≤ size x) (hkid : ∀ x, good x → ∀ y ∈ kids x, good y)
    (hc : ∀ ρ Fd L, okρ ρ → (∀ x ∈ L, good x) → c ρ (stk enc μ Fd L) = .ok (!L.isEmpty) (stk enc μ Fd L))
    (hb : ∀ ρ Fd x L, okρ ρ → good x → (∀ y ∈ L, good y) → Fd.length + size x + (L.map size).sum ≤ B → ∃ ρ', okρ ρ' ∧ b ρ (stk enc μ Fd (x :: L)) = .ok (.nx ρ') (stk enc μ (Fd ++ out x) (kids x ++ L))) :
    ∀ (m fuel : Nat) (ρ : Env) (Fd : List D) (L : List α), okρ ρ → (∀ x ∈ L, good x) → (L.map size).sum ≤ m → m < fuel → Fd.length + (L.map size).sum ≤ B → ∃ ρ', okρ ρ' ∧ whL c b fuel ρ (stk enc μ Fd L) = .ok (.nx ρ') (stk enc μ (Fd ++ L.flatMap all) [])
  | m, 0, ρ, Fd, L, _, _, _, hf, _ => by omega
  | m, fuel + 1, ρ, Fd, [], ho, hg, hs, hf, hB => by
    refine ⟨ρ, ho, ?_⟩
    unfold whL
    rw [hc ρ Fd [] ho hg]
    simp
  | m, fuel + 1, ρ, Fd, x :: L, ho, hg, hs, hf, hB => by
    have gx := hg x List.mem_cons_self
    have gL : ∀ y ∈ L, good y := fun y hy => hg y (List.mem_cons_of_mem _ hy)
    rw [List.map_cons, List.sum_cons] at hs hB
    have h1 := hsz x gx
    have h2 := hout x gx
    obtain ⟨ρ', ho', e⟩ := hb ρ Fd x L ho gx gL (by omega)
    have hm : ((kids x ++ L).map size).sum = ((kids x).map size).sum + (L.map size).sum := by rw [List.map_append, List.sum_append]
    obtain ⟨ρ2, ho2, e2⟩ := stack_loop enc out kids all size good okρ B hall hsz hout hkid hc hb (m - 1) fuel ρ' (Fd ++ out x) (kids x ++ L) ho' (fun y hy => (List.mem_append.mp hy).elim (hkid x gx y) (gL y)) (by rw [hm]; omega) (by omega) (by rw [hm, List.length_append]; omega)
    refine ⟨ρ2, ho2, ?_⟩
    unfold whL
    rw [hc ρ Fd (x :: L) ho hg]
    simp only [List.isEmpty_cons, Bool.not_false, Res.bind_ok, e, e2]
    rw [List.flatMap_append, List.flatMap_cons, hall x gx, List.append_assoc, List.append_assoc]
end VM
namespace VM
@[simp] theorem lm0 : (0 ≤ LIM) = True := eq_true (by decide)
@[simp] theorem lm1 : (1 ≤ LIM) = True := eq_true (by decide)
@[simp] theorem lm2 : (2 ≤ LIM) = True := eq_true (by decide)
@[simp] theorem lm3 : (3 ≤ LIM) = True := eq_true (by decide)
@[simp] theorem lm4 : (4 ≤ LIM) = True := eq_true (by decide)
@[simp] theorem lm5 : (5 ≤ LIM) = True := eq_true (by decide)
@[simp] theorem lm9 : (9 ≤ LIM) = True := eq_true (by decide)
theorem ix0 {a : D} {l : List D} : opIx (.tup (a :: l)) (.int 0) = some (.dat a) := by
  unfold opIx L2.atI L2.ixN
  simp
theorem ix1 {a b : D} {l : List D} : opIx (.tup (a :: b :: l)) (.int 1) = some (.dat b) := by
  unfold opIx L2.atI L2.ixN
  simp only [List.length_cons]
  rw [if_pos (by omega), if_pos (by omega)]
  rfl
theorem addI {i j : Int} : opBin .Add (.int i) (.int j) = some (.dat (.int (i + j))) := rfl
end VM
namespace VM
@[simp] theorem tru_bl {b : Bool} : tru (.bl b) = some b := rfl
@[simp] theorem src_tup {l : List D} {μ : Sto} : srcOf (.dat (.tup l)) μ = some (.vals l) := rfl
@[simp] theorem src_lst {l : List D} {μ : Sto} : srcOf (.dat (.lst l)) μ = some (.vals l) := rfl
@[simp] theorem src_newl {l : List D} {μ : Sto} : srcOf (.new (.lst l)) μ = some (.vals l) := rfl
theorem asg_nm {i : Nat} {d : D} {ρ : Env} (h : i < ρ.length) : asg (.nm i) d ρ = some (ρ.set i (some (.dat d))) := if_pos h
/-- a comprehension over told items, each of which gives one -/
theorem lc_map {s : List D} {step : D → Sto → Res (Option D)} {g : D → D} {μ : Sto} (h : ∀ d ∈ s, step d μ = .ok (some (g d)) μ) (hl : s.length ≤ LIM) : lcLoop (.vals s) step (s.length + 1) 0 μ = .ok (s.map g) μ := by
  rw [lc_pure (g := fun d => some (g d)) h (s.length + 1) 0 (Nat.zero_le _) (by omega) hl, List.drop_zero]
  congr 1
  induction s with
  | nil => rfl
  | cons a s ih => simp [List.filterMap_cons]
end VM
/-! sorted(set(xs)), xs ints or texts. -/
namespace VM
open PySem PySem.Spec L2 PyProof.Rows

/-! ### 1. a kind of members: of one type, ordered -/
structure SKd (P : Program) (w : World) (K : Type) [DecidableEq K] where
  knd : PySem.KeyKind P w K
  bk : Value → K
  toV : K → V
  back : ∀ {k : K} {v : Value}, knd.is k v = true → bk v = k
  scn : ∀ {k : K} {v : Value}, knd.is k v = true → v.scannable = true
  rel : ∀ {k : K} {v : Value}, knd.is k v = true ↔ RelV (toV k) v
  lt : K → K → Bool
  irr : ∀ a, lt a a = false
  tra : ∀ a b c, lt a b = true → lt b c = true → lt a c = true
  tri : ∀ a b, lt a b = false → lt b a = false → a = b
  one : ∀ {A : Around} {E : Value → Shared → Prop} {s : Shared} {a b : K} {u v : Value} {Q : Bool → Shared → Prop}, knd.is a u = true → knd.is b v = true → Q (lt a b) s → wpAny (model P w) A (oneLt' true u v) Q E s
  kin : ∀ {v1 v2 : Value} {vs : List Value}, (∀ v ∈ v1 :: v2 :: vs, knd.is (bk v) v = true) → keyKind' (v1 :: v2 :: vs).toArray = pure oneType'

section
variable {P : Program} {w : World} {K : Type} [DecidableEq K] (D : SKd P w K)
def SKd.Good (e : Int × Value) : Prop := ∃ k, D.knd.is k e.2 = true ∧ e.1 = D.knd.hash k
def SKd.ky (e : Int × Value) : K := D.bk e.2
/-- the set at a: its members are S, at most n -/
def SKd.At (h : Heap) (a : Addr) (S : K → Prop) (n : Nat) : Prop :=
  ∃ o es ep t, (h.get? a = some o ∧ o.ExactSet ∧ o.data = .set es ep t) ∧ ((∀ e ∈ es.toList, D.Good e) ∧ (es.toList.map D.ky).Nodup ∧ ∀ k, S k ↔ k ∈ es.toList.map D.ky) ∧
    (es.size ≤ n ∧ n < scanBound) ∧ t.fits es.size = true ∧ Ris t.place.toList ∧ (w.params.followText "set-order" = true ∨ t.led = true)
variable {D}
theorem SKd.At.at {h h' : Heap} {a : Addr} {S : K → Prop} {n : Nat} (R : D.At h a S n) (k : ∀ o, h.get? a = some o → h'.get? a = some o) : D.At h' a S n := by
  obtain ⟨o, es, ep, t, ⟨ho, hx⟩, r⟩ := R
  exact ⟨o, es, ep, t, ⟨k o ho, hx⟩, r⟩
theorem SKd.At.congr {h : Heap} {a : Addr} {S S' : K → Prop} {n : Nat} (R : D.At h a S n) (e : ∀ k, S' k ↔ S k) : D.At h a S' n := by
  obtain ⟨o, es, ep, t, hx, ⟨g, nd, m⟩, r⟩ := R
  exact ⟨o, es, ep, t, hx, ⟨g, nd, fun k => (e k).trans (m k)⟩, r⟩
theorem SKd.elems {l : List (Int × Value)} (g : ∀ e ∈ l, D.Good e) : ElemsOf D.knd l := fun e he => let ⟨k, h1, h2⟩ := g e he; ⟨⟨k, h1, h2⟩, D.scn h1⟩
theorem SKd.is_iff {e : Int × Value} (g : D.Good e) (k : K) : D.knd.is k e.2 = true ↔ D.ky e = k := by
  obtain ⟨k0, h1, _⟩ := g
  refine ⟨fun h => D.back h, fun h => ?_⟩
  have : k0 = k := (D.back h1).symm.trans h
  rw [← this]; exact h1
theorem SKd.mem_iff {l : List (Int × Value)} (g : ∀ e ∈ l, D.Good e) (k : K) : k ∈ l.map D.ky ↔ ∃ e ∈ l, D.knd.is k e.2 = true := by
  refine List.mem_map.trans ⟨fun ⟨e, he, q⟩ => ⟨e, he, (SKd.is_iff (g e he) k).2 q⟩, fun ⟨e, he, q⟩ => ⟨e, he, (SKd.is_iff (g e he) k).1 q⟩⟩

/-! ### 2. a member more -/
variable {A : Around} {E : Value → Shared → Prop} {s : Shared} {a : Addr} {S : K → Prop} {n : Nat}
theorem SKd.tail {g : Bool → Sem Unit} (hg : ∀ (b : Bool) (z : Shared) (Q' : Unit → Shared → Prop), Q' () z → wpAny (model P w) A (g b) Q' E z)
    {o : Obj} {es xs : Array (Int × Value)} {ep : Nat} {t u : SetTable} {S' : K → Prop} {wd : Bool} {R : Option Bool → Shared → Prop}
    (ho : s.heap.get? a = some o) (hex : o.ExactSet) (hd : o.data = .set es ep t) (g1 : (∀ e ∈ xs.toList, D.Good e) ∧ (xs.toList.map D.ky).Nodup ∧ ∀ k, S' k ↔ k ∈ xs.toList.map D.ky)
    (hb : xs.size ≤ n ∧ n < scanBound) (hf : u.fits xs.size = true) (hr : Ris u.place.toList) (hl : w.params.followText "set-order" = true ∨ u.led = true)
    (hR : ∀ h', Heap.SameBut a s.heap h' → D.At h' a S' n → R (some true) { s with heap := h' }) :
    wpAny (model P w) A (do
        storeSet a xs u
        if (!wd && u.tooFull) = true then do
            g (relayAll u xs (SetTable.grown xs.size)).2.2
            storeSet a (relayAll u xs (SetTable.grown xs.size)).1 (relayAll u xs (SetTable.grown xs.size)).2.1
            pure (some true)
          else pure (some true)) R E s := by
  have hb1 : xs.size < scanBound := Nat.lt_of_le_of_lt hb.1 hb.2
  refine wpAny_bind (wpAny_storeSet_of ho hd ?_ (fits_of_scanBound hb1))
  have o1 := store_at (es' := xs) (t' := u) ho hd
  have b1 := Heap.SameBut.update s.heap a (Obj.putSet xs u)
  split
  · have c1 := relayAll_perm u xs (SetTable.grown xs.size)
    have c2 := relayAll_fits u xs (SetTable.grown xs.size)
    have c3 := relayAll_ris u xs (SetTable.grown xs.size)
    have c4 := relayAll_led u xs (SetTable.grown xs.size)
    generalize relayAll u xs (SetTable.grown xs.size) = Y at c1 c2 c3 c4 ⊢
    obtain ⟨ys, v, gv⟩ := Y
    dsimp only at c1 c2 c3 c4 ⊢
    have z : ys.size = xs.size := by rw [← Array.length_toList, c1.length_eq, Array.length_toList]
    refine wpAny_bind (hg _ _ _ (wpAny_bind (wpAny_storeSet_of o1 rfl ?_ (fits_of_scanBound (by rw [z]; exact hb1)))))
    have o2 := store_at (es' := ys) (t' := v) o1 rfl
    refine wpAny_pure (hR _ (b1.trans (Heap.SameBut.update _ a _)) ⟨_, ys, _, v, ⟨o2, hex, rfl⟩, ⟨fun e he => g1.1 e (c1.mem_iff.mp he), (c1.map D.ky).nodup_iff.mpr g1.2.1, fun k => (g1.2.2 k).trans (c1.map D.ky).mem_iff.symm⟩,
      ⟨by rw [z]; exact hb.1, hb.2⟩, c2, c3, hl.imp id fun q => by rw [c4]; exact q⟩)
  · exact wpAny_pure (hR _ b1 ⟨_, xs, _, u, ⟨o1, hex, rfl⟩, g1, hb, hf, hr, hl⟩)

theorem SKd.add {k : K} {x : Value} {Q : Bool → Shared → Prop} (hx : D.knd.is k x = true) (R : D.At s.heap a S n) (room : n + 1 < scanBound)
    (hQ : ∀ b h', Heap.SameBut a s.heap h' → D.At h' a (fun j => S j ∨ j = k) (n + 1) → Q b { s with heap := h' }) : wpAny (model P w) A (setAddHashed a x (D.knd.hash k)) Q E s := by
  obtain ⟨o, es, ep, t, ⟨ho, hex, hd⟩, ⟨g, nd, hm⟩, ⟨hn, hb⟩, hf, hr, hl⟩ := R
  have hsc := D.scn hx
  have hel := SKd.elems g
  have hbs : es.size < scanBound := Nat.lt_of_le_of_lt hn hb
  unfold setAddHashed setAddHashedIn
  refine wpAny_holding (wpAny_bind (wpAny_setState_of ho hd hf ?_))
  dsimp only
  rw [byScan_of hsc hbs hel]
  simp only [↓reduceIte]
  unfold setAddByScan
  refine wpAny_bind (wpAny_bind (wpAny_rule (wpAny_bind (wpAny_setScan_of hx ho hd hf hel ?_))))
  cases hfi : List.findIdx? (fun e => D.knd.is k e.2) es.toList with
  | some j =>
    dsimp only
    obtain ⟨hj, pj, _⟩ := List.findIdx?_eq_some_iff_getElem.mp hfi
    have hSk : S k := (hm k).2 ((SKd.mem_iff g k).2 ⟨es.toList[j], List.getElem_mem hj, pj⟩)
    exact wpAny_pure (wpAny_pure (hQ _ s.heap (Heap.SameBut.refl a s.heap) ⟨o, es, ep, t, ⟨ho, hex, hd⟩, ⟨g, nd, fun i => ⟨fun z => (hm i).1 (z.elim id fun e => e ▸ hSk), fun z => .inl ((hm i).2 z)⟩⟩, ⟨by omega, room⟩, hf, hr, hl⟩))
  | none =>
    dsimp only
    have hnk : k ∉ es.toList.map D.ky := fun z => by
      obtain ⟨e, he, q⟩ := (SKd.mem_iff g k).1 z
      have c := List.findIdx?_eq_none_iff.mp hfi e he
      rw [q] at c
      cases c
    have hgw : ∀ (b : Bool) {z : Shared} {Q' : Unit → Shared → Prop}, Q' () z → wpAny (model P w) A (match b with | true => rule "set.scan.the-table-gave-way" | false => pure ()) Q' E z :=
      fun b z Q' q => by cases b <;> first | exact wpAny_pure q | exact wpAny_rule q
    have pm := layNew_perm t es (D.knd.hash k) x
    have f1 := layNew_fits t es (D.knd.hash k) x
    have r1 := layNew_ris t es (D.knd.hash k) x hr
    have l1 := layNew_led t es (D.knd.hash k) x
    generalize layNew t es (D.knd.hash k) x = Y at pm f1 r1 l1 ⊢
    obtain ⟨xs, t1, wd, gv⟩ := Y
    dsimp only at pm f1 r1 l1 ⊢
    rw [Array.toList_push] at pm
    have pc : xs.toList.Perm ((D.knd.hash k, x) :: es.toList) := pm.trans (List.perm_append_singleton _ _)
    have pk : (xs.toList.map D.ky).Perm (k :: es.toList.map D.ky) := by
      have q := pc.map D.ky
      rw [List.map_cons, show D.ky (D.knd.hash k, x) = k from D.back hx] at q
      exact q
    have g1 : (∀ e ∈ xs.toList, D.Good e) ∧ (xs.toList.map D.ky).Nodup ∧ ∀ i, (S i ∨ i = k) ↔ i ∈ xs.toList.map D.ky := by
      refine ⟨fun e he => ?_, pk.nodup_iff.mpr (List.nodup_cons.mpr ⟨hnk, nd⟩), fun i => ?_⟩
      · rcases List.mem_cons.mp (pc.mem_iff.mp he) with z | z
        · rw [z]; exact ⟨k, hx, rfl⟩
        · exact g e z
      · rw [pk.mem_iff, List.mem_cons, hm i]; exact Or.comm
    have hsz : xs.size ≤ n + 1 := by rw [← Array.length_toList, pc.length_eq, List.length_cons, Array.length_toList]; omega
    have led1 : w.params.followText "set-order" = true ∨ t1.led = true := hl.imp id fun z => by rw [l1]; exact z
    refine wpAny_bind (hgw _ ?_)
    split
    · refine wpAny_bind ?_
      rw [hashByValue_scannable 8 hsc]
      refine wpAny_pure (SKd.tail (n := n + 1) (fun b z Q' q => by cases b <;> first | exact wpAny_pure q | exact wpAny_rule q) ho hex hd g1 ⟨hsz, room⟩ ?_ ?_ ?_ fun h' sb r => by dsimp only; exact wpAny_pure (hQ _ h' sb r))
      · first | (split <;> first | exact f1 | exact SetTable.fits_plain_off f1) | exact f1
      · first | (split <;> exact r1) | exact r1
      · first | (split <;> exact led1) | exact led1
    · refine wpAny_bind (wpAny_pure ?_)
      simp only [↓reduceIte]
      exact SKd.tail (n := n + 1) (fun b z Q' q => by cases b <;> first | exact wpAny_pure q | exact wpAny_rule q) ho hex hd g1 ⟨hsz, room⟩ f1 r1 led1 fun h' sb r => by dsimp only; exact wpAny_pure (hQ _ h' sb r)

/-! ### 3. set(xs) -/
theorem SKd.loop {I : Addr} {fp wr : List Addr} {G : Array GenState → Array GenState → Prop} {m : Nat} {Pv : Nat → Value → Prop} {St : Nat → Shared → Prop} {R : Result → Shared → Prop}
    (W : WalksS P w A.in1 I fp wr G m Pv St) (T : Addr) (hT : T ∉ fp) (ks : List K) (hm : m = ks.length) (hb : ks.length + 1 < scanBound) (hv : ∀ (i : Nat) (v : Value), Pv i v → ∃ k, ks[i]? = some k ∧ D.knd.is k v = true) :
    ∀ (c i : Nat) (s : Shared), m - i = c → i ≤ m → St i s → D.At s.heap T (fun j => j ∈ ks.take i) i →
      (∀ s', Moved (T :: wr) G s s' → D.At s'.heap T (fun j => j ∈ ks) m → R (.ok (.ret .none)) s') → codeAny (model P w) A (.builtin "set.update.loop" ⟨[.ref T, .ref I], []⟩) R s := by
  have nT : T ∉ wr := fun h => hT (W.sub _ h)
  have up : ∀ b ∈ wr, b ∈ T :: wr := fun b => List.mem_cons_of_mem _
  intro c
  induction c with
  | zero =>
    intro i s hc hi hst hS hR
    obtain rfl : i = m := by omega
    refine codeAny_builtin F.entry_set_update_loop ?_
    rw [Around.under_plainId F.plain_set_update_loop _]
    show wpAny _ A.in1 (pyNext (.ref I) >>= _) _ _ s
    refine wpAny_bind (W.done s _ _ hst fun s' mv => ?_)
    show wpAny _ A.in1 (ret Value.none) _ _ s'
    rw [List.take_of_length_le (by omega)] at hS
    exact wpAny_pure (hR s' (mv.mono up) (hS.at fun o e => mv.heap T o nT e))
  | succ c ih =>
    intro i s hc hi hst hS hR
    have hlt : i < m := by omega
    refine codeAny_builtin F.entry_set_update_loop ?_
    rw [Around.under_plainId F.plain_set_update_loop _]
    show wpAny _ A.in1 (pyNext (.ref I) >>= _) _ _ s
    refine wpAny_bind (W.item i s _ _ hlt hst fun v s' hP hst' mv => ?_)
    obtain ⟨k, hk, hi'⟩ := hv i v hP
    have hS' : D.At s'.heap T (fun j => j ∈ ks.take i) i := hS.at fun o e => mv.heap T o nT e
    show wpAny _ A.in1 (holding [v] (setAdd T v) >>= _) _ _ s'
    refine wpAny_bind (wpAny_holding ?_)
    unfold setAdd
    refine wpAny_holding (wpAny_bind (D.knd.pyHash hi' ?_))
    refine SKd.add (s := { s' with toks := s'.toks + 1 }) hi' hS' (by omega) fun b h' sb r => ?_
    have r' : D.At h' T (fun j => j ∈ ks.take (i + 1)) (i + 1) := r.congr fun j => by
      rw [List.take_add_one, hk]
      simp [List.mem_append]
    refine wpAny_pure ⟨plainId_quiet F.plain_set_update_loop _, ih (i + 1) _ (by omega) hlt (W.frame _ s' _ _ hst' (Nat.le_succ _) fun b hb o e => ?_) r' fun s'' mv' r'' => ?_⟩
    · exact (sb.2 b fun h : b = T => hT (h ▸ hb)).trans e
    · exact hR s'' (Moved.trans W.gtrans ((mv.mono up).then_heap (Nat.le_succ _) fun b o hb e => (sb.2 b fun h : b = T => hb (h ▸ List.mem_cons_self)).trans e) mv') r''

theorem SKd.fresh {h : Heap} {a : Addr} {ks : List K} (ho : h.get? a = some { cls := .type "set", dict := none, data := .set #[] 0 (.fresh 0 0 (!w.params.followText "set-order")) }) : D.At h a (fun j => j ∈ ks.take 0) 0 :=
  ⟨_, #[], 0, _, ⟨ho, ⟨rfl, rfl, rfl⟩, rfl⟩, ⟨fun e he => by simp at he, by simp, fun k => by simp⟩, ⟨Nat.le_refl _, by decide⟩, by rfl, List.Pairwise.nil, by
    cases e : w.params.followText "set-order"
    · exact .inr rfl
    · exact .inl rfl⟩
end
end VM
/-! sorted(set(xs)): the calls. -/
namespace VM
open PySem PySem.Spec L2 PyProof.Rows
/-! ### in plain words -/
def insU {K : Type} (lt : K → K → Bool) (x : K) : List K → List K
  | [] => [x]
  | y :: ys => if lt x y then x :: y :: ys else if lt y x then y :: insU lt x ys else y :: ys
def sortU {K : Type} (lt : K → K → Bool) : List K → List K
  | [] => []
  | x :: xs => insU lt x (sortU lt xs)
section
variable {P : Program} {w : World} {K : Type} [DecidableEq K] {D : SKd P w K} {A : Around} {E : Value → Shared → Prop} {s : Shared}
set_option maxRecDepth 100000 in
set_option maxHeartbeats 3200000 in
theorem SKd.make {l : Addr} {items : Array Value} (ks : List K) {Q : Value → Shared → Prop} (hh : A.handled = none) (hl : s.heap.IsList l items) (hit : ∀ (i : Nat) (v : Value), items[i]? = some v → ∃ k, ks[i]? = some k ∧ D.knd.is k v = true) (hz : items.size = ks.length) (hb : ks.length + 1 < scanBound)
    (h : ∀ (h' : Heap) (tk : Nat), D.At h' s.heap.objs.size (fun j => j ∈ ks) ks.length → (∀ b o, s.heap.get? b = some o → h'.get? b = some o) → Q (.ref s.heap.objs.size) { s with heap := h', toks := tk }) :
    wpAny (model P w) A (call (.type "set") [.ref l]) Q E s := by
  obtain ⟨c, tl, hmro⟩ := F.called_set.mro
  have made := F.called_set.made
  have sub := F.called_set.sub
  refine wpAny_call (codeAny_of_tree ?_)
  show wpAny _ _ (callAny (.type "set") _) _ _ _
  refine wpAny_pure ⟨Code.quiet_builtin _ (by decide +kernel), codeAny_builtin F.entry_type_call ?_⟩
  rw [Around.under_plain (weight_type_call_type "set" [.ref l] []) rfl]
  have h1 := F.called_set.notType
  have h2 := F.called_set.canCreate
  have hct := F.typeCall_set_1 (.ref l)
  repeat (any_goals (first | assumption | wp_step))
  generalize eN : ({ cls := .type "set", dict := none, data := .set #[] 0 (.fresh 0 0 (!w.params.followText "set-order")) } : Obj) = N
  have cN : N.cls = .type "set" := by rw [← eN]
  refine codeAny_mono (code_set_led1 (.ref l) (E := E) (Q₁ := fun obj z => obj = .ref s.heap.objs.size ∧ z = { s with heap := s.heap.push N }) (by rw [eN]; exact ⟨rfl, rfl⟩)) fun r z hr => ?_
  cases r with
  | error e => exact hr
  | ok fl =>
    cases fl with
    | ret obj =>
      obtain ⟨rfl, rfl⟩ := hr
      have hS : (s.heap.push N).get? s.heap.objs.size = some N := Heap.get?_push_size _ (by rw [← eN] <;> rfl)
      have hT : Shared.TypeIs { s with heap := s.heap.push N } (.ref s.heap.objs.size) "set" := ⟨_, hS, cN⟩
      have hli := F.called_set.init.lookup
      have hbi := F.called_set.init.bind (.ref s.heap.objs.size)
      repeat (any_goals (first | assumption | wp_step))
      refine codeAny_mono (codeAny_call_builtin (R := wants (fun r z => r = .none ∧ ∃ h' tk, z = { s with heap := h', toks := tk } ∧ D.At h' s.heap.objs.size (fun j => j ∈ ks) ks.length ∧
          ∀ b o, s.heap.get? b = some o → h'.get? b = some o) E) F.called_set.init.plain F.entry_set_init (check_set_init_1 hT ?_)) fun r₂ z₂ hr₂ => ?_
      · obtain ⟨ol, hol, hcl, nl, hdl⟩ := hl
        have hol' : (s.heap.push N).get? l = some ol := Heap.get?_push_of_some _ hol
        obtain ⟨ocls, odict, odata, oslots⟩ := ol
        simp only at hcl hdl
        subst hcl
        subst hdl
        have hsls := F.sub_list_set
        have hslf := F.sub_list_frozenset
        have hne : (Value.type "list" == Value.type "dict") = false := by decide
        have hlS : l < s.heap.objs.size := Heap.lt_size hol
        have hh3 : A.in1.in1.in1.handled = none := by simp [hh]
        have z1 : ∀ N : Obj, (s.heap.push N).objs.size = s.heap.objs.size + 1 := fun _ => Heap.size_push ..
        have nI : ∀ N : Obj, l ≠ (s.heap.push N).objs.size := fun N => by rw [z1]; exact Nat.ne_of_lt (Nat.lt_succ_of_lt hlS)
        have nS : ∀ N : Obj, s.heap.objs.size ∉ [(s.heap.push N).objs.size, l] := fun N => by
          rw [z1]
          simp only [List.mem_cons, List.not_mem_nil, or_false, not_or]
          exact ⟨Nat.ne_of_lt (Nat.lt_succ_self _), Nat.ne_of_gt hlS⟩
        have hl1 : (s.heap.push N).IsList l items := ⟨_, hol', rfl, nl, rfl⟩
        subst eN
        unfold Builtin.«set.__init__» noKeywords Builtin.Frozenset.updateFrom
        generalize hPI : pyIter = PI
        wp_walk
        subst hPI
        refine wpAny_pyIter_list hl1 ?_
        refine wpAny_bind (wpAny_runValue ?_)
        refine SKd.loop (D := D) ((Walks.list hh3 _ l (nI _) items).toS) s.heap.objs.size (nS _) ks hz hb hit (items.size - 0) 0 _ (by omega) (Nat.zero_le _) ⟨⟨_, Heap.get?_push_size _ rfl, rfl, rfl⟩, (hl1.push _)⟩ ?hS0 ?hR
        case hS0 =>
          exact SKd.fresh (Heap.get?_push_of_some _ hS)
        case hR =>
          intro s' hm hS'
          obtain ⟨h', g2, d', tk', os'⟩ := s'
          have eg : g2 = s.gens := hm.gens
          have ed : d' = s.drawn := hm.drawn
          have eo : os' = s.os := hm.os
          subst eg
          subst ed
          subst eo
          show wpAny _ _ _ _ _ _
          refine wpAny_pure ?_
          show wpAny _ _ (ret Value.none) _ _ _
          rw [hz] at hS'
          refine wpAny_pure ⟨rfl, h', tk', rfl, hS', fun b o e => ?_⟩
          have b0 : b < s.heap.objs.size := Heap.lt_size e
          refine hm.heap b o ?_ (Heap.get?_push_of_some _ (Heap.get?_push_of_some _ e))
          simp only [List.mem_cons, List.not_mem_nil, or_false, not_or]
          exact ⟨Nat.ne_of_lt b0, by rw [z1]; exact Nat.ne_of_lt (Nat.lt_succ_of_lt b0)⟩
      · cases r₂ with
        | error e => exact hr₂
        | ok fl₂ =>
          cases fl₂ with
          | ret r =>
            obtain ⟨rfl, h', tk, rfl, hS', hk'⟩ := hr₂
            repeat (any_goals (first | assumption | wp_step))
            exact h _ _ hS' hk'
          | _ => exact hr₂.elim
    | _ => exact hr.elim

/-! ### the order -/
def SKd.ltv (D : SKd P w K) (v u : Value) : Bool := D.lt (D.bk v) (D.bk u)
theorem SKd.swo (D : SKd P w K) : SrtO.Swo D.ltv := by
  refine ⟨fun x y h => ?_, fun x y z h1 h2 => ?_⟩
  · cases e : D.ltv y x with
    | false => rfl
    | true => exact absurd (D.tra _ _ _ h e) (by rw [D.irr]; simp)
  · cases e : D.ltv z x with
    | false => rfl
    | true =>
      have h1 : D.lt (D.bk y) (D.bk x) = false := h1
      have h2 : D.lt (D.bk z) (D.bk y) = false := h2
      have e : D.lt (D.bk z) (D.bk x) = true := e
      cases q : D.lt (D.bk x) (D.bk y) with
      | true => exact absurd (D.tra _ _ _ e q) (by rw [h2]; simp)
      | false =>
        rw [D.tri _ _ q h1] at e
        rw [h2] at e; cases e
theorem SKd.sortable {a : Addr} {vs : List Value} (hv : ∀ v ∈ vs, D.knd.is (D.bk v) v = true) (h2 : 2 ≤ vs.length) : SrtO.SortableO P w A s a vs D.ltv := by
  intro h' _
  refine ⟨oneType', fun Q E hq => ?_, fun p q hm hm' => ?_⟩
  · match vs, hv, h2 with
    | v1 :: v2 :: rest, hv, _ => rw [D.kin hv]; exact wpAny_pure hq
    | [], _, h => exact absurd h (by decide)
    | [v], _, h => exact absurd h (by simp)
  · show wpAny (model P w) A (keyLt' oneType' p.1 q.1) (fun r s' => s' = _ ∧ r = D.ltv p.1 q.1) (fun _ _ => False) _
    rw [keyLt'_oneType]
    exact D.one (hv _ hm) (hv _ hm') ⟨rfl, rfl⟩
theorem SKd.srtd {a : Addr} {S : K → Prop} {n : Nat} {Q : Value → Shared → Prop} (R : D.At s.heap a S n) (hh : A.handled = none)
    (hQ : ∀ s' p (out : Array Value) (c : Nat), (∀ b o, s.heap.get? b = some o → s'.heap.get? b = some o) → s'.gens = s.gens → s'.os = s.os → s.heap.objs.size ≤ p →
      s'.heap.get? p = some (seqObj "list" out c) → (∀ v ∈ out.toList, D.knd.is (D.bk v) v = true) → (out.toList.map D.bk).Pairwise (fun x y => D.lt x y = true) → (∀ k, k ∈ out.toList.map D.bk ↔ S k) → Q (.ref p) s') :
    wpAny (model P w) A (call (.builtin "sorted") [.ref a]) Q E s := by
  obtain ⟨o, es, ep, t, ⟨ho, hex, hd⟩, ⟨g, nd, hm⟩, ⟨hn, hb⟩, hf, hr, hl⟩ := R
  have hbs : es.size < scanBound := Nat.lt_of_le_of_lt hn hb
  refine Calls.call_function_entry kind_sorted plain_sorted entry_sorted (args_sorted1 _) ?_
  unfold Builtin.«sorted»
  refine wpAny_bind (m := checkCount "sorted" 1 1 _) (wpAny_pure ?_)
  refine wpAny_bind (collect_set (A := A.in1) hh ⟨o, ho, hex.1, hd⟩ hf hbs hr hl fun s1 vs k1 hz g1 o1 pm => ?_)
  have hvl : vs.length ≤ sizeLine := by
    rw [pm.length_eq, List.length_map, Array.length_toList]
    exact fits_of_scanBound hbs
  have hv : ∀ v ∈ vs, D.knd.is (D.bk v) v = true := fun v hv => by
    obtain ⟨e, he, rfl⟩ := List.mem_map.mp (pm.mem_iff.mp hv)
    exact (SKd.is_iff (g e he) _).2 rfl
  have pk : (vs.map D.bk).Perm (es.toList.map D.ky) := by
    have q := pm.map D.bk
    rw [List.map_map] at q
    exact q
  refine wpAny_bind (wpAny_newList ?_ hvl)
  have hoL : (s1.heap.push (seqObj "list" vs.toArray 0)).get? s1.heap.objs.size = some (seqObj "list" vs.toArray 0) := Heap.get?_push_size _ rfl
  refine wpAny_bind (wpAny_holding (wpAny_call_entry slot_list_sort ⟨_, hoL, rfl⟩ entry_list_sort (SrtO.list_sort_ord D.swo hoL hvl (fun h2 => SKd.sortable hv h2) fun out hs hb' => ⟨_, rfl, ?_⟩) (args_list_sort _)))
  obtain ⟨c, hc⟩ := sortedHeap_at (vs := vs) (out := out.toArray) hoL
  have pn : (out.map D.bk).Perm (es.toList.map D.ky) := (hb'.perm.map D.bk).trans pk
  refine wpAny_pure ⟨_, rfl, hQ _ s1.heap.objs.size out.toArray c (fun b u e => ?_) g1 o1 hz hc (fun v h => hv v (hb'.perm.mem_iff.mp (by simpa using h))) ?_ (fun k => ?_)⟩
  · have q := k1 b u e
    have hlt := Heap.lt_size q
    show (sortedHeap (s1.heap.push (seqObj "list" vs.toArray 0)) s1.heap.objs.size vs out.toArray).get? b = some u
    rw [sortedHeap_old (Nat.ne_of_lt hlt) (by rw [size_push']; exact Nat.lt_succ_of_lt hlt)]
    exact Heap.get?_push_of_some _ q
  · have nd' := pn.nodup_iff.mpr nd
    have hs' : (out.map D.bk).Pairwise fun x y => D.lt y x = false := List.pairwise_map.mpr hs
    show (out.map D.bk).Pairwise _
    refine (hs'.and nd').imp fun {x y} h => ?_
    cases q : D.lt x y with
    | true => rfl
    | false => exact absurd (D.tri _ _ q h.1) h.2
  · show k ∈ out.map D.bk ↔ S k
    rw [pn.mem_iff, ← hm k]

theorem SKd.mem_ins {k x : K} : ∀ {l : List K}, k ∈ insU D.lt x l ↔ k = x ∨ k ∈ l
  | [] => by simp [insU]
  | y :: ys => by
    unfold insU
    by_cases h1 : D.lt x y = true
    · rw [if_pos h1, List.mem_cons]
    · rw [if_neg h1]
      by_cases h2 : D.lt y x = true
      · rw [if_pos h2, List.mem_cons, SKd.mem_ins (l := ys), List.mem_cons]
        exact ⟨fun h => h.elim (fun h => .inr (.inl h)) fun h => h.elim .inl fun h => .inr (.inr h), fun h => h.elim (fun h => .inr (.inl h)) fun h => h.elim .inl fun h => .inr (.inr h)⟩
      · rw [if_neg h2]
        have e : x = y := D.tri _ _ (by simpa using h1) (by simpa using h2)
        subst e
        exact ⟨.inr, fun h => h.elim (fun h => h ▸ List.mem_cons_self) id⟩
theorem SKd.mem_sort {k : K} : ∀ {l : List K}, k ∈ sortU D.lt l ↔ k ∈ l
  | [] => by simp [sortU]
  | x :: l => by rw [sortU, SKd.mem_ins, SKd.mem_sort, List.mem_cons]
theorem SKd.ins_up {x : K} : ∀ {l : List K}, l.Pairwise (fun a b => D.lt a b = true) → (insU D.lt x l).Pairwise fun a b => D.lt a b = true
  | [], _ => List.pairwise_singleton _ _
  | y :: ys, h => by
    obtain ⟨a, b⟩ := List.pairwise_cons.mp h
    unfold insU
    by_cases h1 : D.lt x y = true
    · rw [if_pos h1]
      refine List.pairwise_cons.mpr ⟨fun z hz => ?_, h⟩
      rcases List.mem_cons.mp hz with rfl | hz
      · exact h1
      · exact D.tra _ _ _ h1 (a z hz)
    · rw [if_neg h1]
      by_cases h2 : D.lt y x = true
      · rw [if_pos h2]
        refine List.pairwise_cons.mpr ⟨fun z hz => ?_, SKd.ins_up b⟩
        rcases SKd.mem_ins.mp hz with rfl | hz
        · exact h2
        · exact a z hz
      · rw [if_neg h2]; exact h
theorem SKd.sort_up : ∀ {l : List K}, (sortU D.lt l).Pairwise fun a b => D.lt a b = true
  | [] => List.Pairwise.nil
  | x :: l => SKd.ins_up SKd.sort_up
theorem SKd.uniq : ∀ {l m : List K}, l.Pairwise (fun a b => D.lt a b = true) → m.Pairwise (fun a b => D.lt a b = true) → (∀ k, k ∈ l ↔ k ∈ m) → l = m
  | [], [], _, _, _ => rfl
  | [], y :: m, _, _, h => absurd ((h y).2 List.mem_cons_self) (by simp)
  | x :: l, [], _, _, h => absurd ((h x).1 List.mem_cons_self) (by simp)
  | x :: l, y :: m, h1, h2, h => by
    obtain ⟨a1, a2⟩ := List.pairwise_cons.mp h1
    obtain ⟨b1, b2⟩ := List.pairwise_cons.mp h2
    have no : ∀ k, D.lt k k = true → False := fun k q => by rw [D.irr] at q; cases q
    have e : x = y := by
      rcases List.mem_cons.mp ((h x).1 List.mem_cons_self) with e | hx
      · exact e
      · rcases List.mem_cons.mp ((h y).2 List.mem_cons_self) with e | hy
        · exact e.symm
        · exact (no x (D.tra _ _ _ (a1 y hy) (b1 x hx))).elim
    subst e
    rw [SKd.uniq a2 b2 fun k => ⟨fun hk => ?_, fun hk => ?_⟩]
    · rcases List.mem_cons.mp ((h k).1 (List.mem_cons_of_mem _ hk)) with e | q
      · subst e; exact (no _ (a1 _ hk)).elim
      · exact q
    · rcases List.mem_cons.mp ((h k).2 (List.mem_cons_of_mem _ hk)) with e | q
      · subst e; exact (no _ (b1 _ hk)).elim
      · exact q
end
end VM
/-! sorted(set(xs)) as a word of the VM. -/
namespace VM
open PySem PySem.Spec L2 PyProof.Rows
def kInt (P : Program) (w : World) : SKd P w Int where
  knd := PySem.intKind P w
  bk := fun v => match v with | .int k _ => k | _ => 0
  toV := V.int
  back := fun {k v} h => by obtain ⟨t, rfl⟩ := Value.isInt_shape (k := k) h; rfl
  scn := fun {k v} h => by obtain ⟨t, rfl⟩ := Value.isInt_shape (k := k) h; rfl
  rel := fun {k v} => ⟨fun h => Value.isInt_shape (k := k) h, fun ⟨t, h⟩ => by rw [h]; exact intKind_is P w k t⟩
  lt := fun a b => decide (a < b)
  irr := fun a => by simp
  tra := fun a b c h1 h2 => by simp only [decide_eq_true_eq] at *; omega
  tri := fun a b h1 h2 => by simp only [decide_eq_false_iff_not] at *; omega
  one := fun {A E s a b u v Q} hu hv h => by
    obtain ⟨t, rfl⟩ := Value.isInt_shape (k := a) hu
    obtain ⟨t', rfl⟩ := Value.isInt_shape (k := b) hv
    exact oneLt_int h
  kin := fun {v1 v2 vs} h => by
    refine keyKind_ints (ns := (v1 :: v2 :: vs).map SrtO.iv) (SrtO.ints_iv fun v hv => ?_)
    obtain ⟨t, e⟩ := Value.isInt_shape (h v hv)
    exact ⟨_, t, e⟩
def ltS (a b : Str) : Bool := decide (a.cps.toList < b.cps.toList)
def kStr (P : Program) (w : World) : SKd P w Str where
  knd := PySem.strKind P w
  bk := PyProof.Rows.strOf
  toV := V.str
  back := fun {k v} h => by obtain ⟨t, rfl⟩ := Value.isStrOf_shape (x := k) h; rfl
  scn := fun {k v} h => by obtain ⟨t, rfl⟩ := Value.isStrOf_shape (x := k) h; rfl
  rel := fun {k v} => ⟨fun h => Value.isStrOf_shape (x := k) h, fun ⟨t, h⟩ => by rw [h]; exact strKind_is P w k t⟩
  lt := ltS
  irr := fun a => PyProof.Rows.strKind.irrefl a.cps.toList
  tra := fun a b c h1 h2 => PyProof.Rows.strKind.trans a.cps.toList b.cps.toList c.cps.toList h1 h2
  tri := fun a b h1 h2 => by
    have e : a.cps.toList = b.cps.toList := PyProof.Rows.strKind.total a.cps.toList b.cps.toList h1 h2
    cases a; cases b
    exact congrArg Str.mk (Array.toList_inj.mp e)
  one := fun {A E s a b u v Q} hu hv h => by
    obtain ⟨t, rfl⟩ := Value.isStrOf_shape (x := a) hu
    obtain ⟨t', rfl⟩ := Value.isStrOf_shape (x := b) hv
    exact oneLt_str h
  kin := fun {v1 v2 vs} h => by
    refine keyKind_strs (ss := (v1 :: v2 :: vs).map PyProof.Rows.strOf) (strsAre_map _ fun v hv => ?_)
    obtain ⟨t, e⟩ := Value.isStrOf_shape (h v hv)
    exact ⟨_, t, e⟩
def ltI (a b : Int) : Bool := decide (a < b)

def rSS (K : PySem.W.Frag) : List V → Hp → VK → Prop := fun vs H Q => ∃ a, vs = [V.ref a] ∧
  ((∃ ks : List Int, SqL K H a (ks.map V.int) ∧ ks.length < 4000 ∧ ∀ p, H p = none → Q (.ref p) (upd H p (.lst ((sortU ltI ks).map V.int)))) ∨
   (∃ ks : List Str, SqL K H a (ks.map V.str) ∧ ks.length < 4000 ∧ ∀ p, H p = none → Q (.ref p) (upd H p (.lst ((sortU ltS ks).map V.str)))))
section
variable {X : Cx} {pins : List (Addr × Obj)} {σ : L2.St} {H : Hp} {s : Shared} {K : Type} [DecidableEq K]
theorem vals_keys (D : SKd X.prog X.w K) : ∀ {out : List Value}, (∀ v ∈ out, D.knd.is (D.bk v) v = true) → Vals ((out.map D.bk).map D.toV) out
  | [], _ => .nil
  | v :: out, h => .cons (D.rel.mp (h v List.mem_cons_self)) (vals_keys D fun u hu => h u (List.mem_cons_of_mem _ hu))
theorem keys_at (D : SKd X.prog X.w K) : ∀ {ks : List K} {us : List Value}, Vals (ks.map D.toV) us → ∀ (i : Nat) (v : Value), us[i]? = some v → ∃ k, ks[i]? = some k ∧ D.knd.is k v = true
  | [], _, .nil, i, v, h => by simp at h
  | k :: ks, _, .cons r t, 0, v, h => by simp at h; subst h; exact ⟨k, rfl, D.rel.mpr r⟩
  | k :: ks, _, .cons r t, i + 1, v, h => by simpa using keys_at D t i v (by simpa using h)
theorem len_ins {lt : K → K → Bool} {x : K} : ∀ {l : List K}, (insU lt x l).length ≤ l.length + 1
  | [] => by simp [insU]
  | y :: ys => by
    unfold insU
    split
    · simp
    · split
      · have := len_ins (lt := lt) (x := x) (l := ys); simp; omega
      · simp
theorem len_sort {lt : K → K → Bool} : ∀ {l : List K}, (sortU lt l).length ≤ l.length
  | [] => by simp [sortU]
  | x :: l => by
    have h1 := len_ins (lt := lt) (x := x) (l := sortU lt l)
    have h2 := len_sort (lt := lt) (l := l)
    rw [sortU, List.length_cons]; omega
/-- both calls -/
theorem sset_go (D : SKd X.prog X.w K) {a : Addr} {ks : List K} {Q : VK} {pos : Pos} (hc : X.calm = true) (I : Inv X pins σ H s) (hq : SqL X.K H a (ks.map D.toV)) (hl : ks.length < 4000)
    (q : ∀ p, H p = none → Q (.ref p) (upd H p (.lst ((sortU D.lt ks).map D.toV)))) :
    wpAny (model X.prog X.w) X.A (call (.type "set") [.ref a]) (fun v z => wpAny (model X.prog X.w) X.A (spliced (backTo pos (starEach [] X.env))) (fun vs z' => wpAny (model X.prog X.w) X.A (call (.builtin "sorted") (v :: vs)) (EP X pins σ Q) X.xe z') X.xe z) X.xe s := by
  obtain ⟨its, r, pl, hz⟩ := I.list hq
  refine SKd.make (D := D) ks (I.ok.hd hc) pl.isList (fun i v h => keys_at D r i v (by simpa using h)) (by rw [List.size_toArray, ← r.length, List.length_map]) (by unfold scanBound; omega) fun h' tk hS hk => ?_
  refine PyProof.Rows.args_nil ?_
  have I2 : Inv X pins σ H { s with heap := h', toks := tk } := I.kept hk
  refine SKd.srtd hS (I2.ok.hd hc) fun s' p out c k g o hp hg hv hs hm => ?_
  have e : out.toList.map D.bk = sortU D.lt ks := SKd.uniq (D := D) hs SKd.sort_up fun j => (hm j).trans (SKd.mem_sort (D := D)).symm
  have rv := vals_keys D hv
  rw [e] at rv
  have hlen : ((sortU D.lt ks).map D.toV).length ≤ sizeLine := by
    have := len_sort (lt := D.lt) (l := ks)
    rw [List.length_map, sizeLine_eq]; omega
  have hn : H p = none := I2.hok.fresh hp
  have J : Inv X pins σ (upd H p (.lst ((sortU D.lt ks).map D.toV))) s' := I2.call' (ch := []) o (Un.laid k hp hn) (I2.hok.laid k hp ⟨hlen, out.toList, c, rv, hg⟩) (by rw [g]; exact I2.bare) (fun _ z => nomatch z)
  exact ⟨.ref p, _, J, rfl, q p hn⟩
theorem pe_sset {e : Expr} {ta : TA} {p p2 q pos : Pos} (hc : X.calm = true) (hg : Gl X "sorted") (hm : X.mg "sorted" = none) (hg2 : Gl X "set") (hm2 : X.mg "set" = none) (ha : PA X [e] ta)
    (na : starEach [e] X.env = (false, eval e X.env) :: starEach [] X.env := by rfl) : PE X (.Call (.Name "sorted" p) [.Call (.Name "set" p2) [e] [] q] [] pos) (tCB (rSS X.K) ta) := by
  refine ⟨fun pins s σ H Q I h => ?_⟩
  refine Call_ (ld_blt I hg hm boot_sorted ?_)
  refine PyProof.Rows.callWith_builtin1 (PyProof.Rows.args_cons ?_ rfl) rfl rfl
  refine Call_ (ld_blt I hg2 hm2 boot_set ?_)
  refine PyProof.Rows.callWith_type1 (thn (ha.run q pins s σ H _ I h) fun us s1 ⟨vs, H1, I1, r1, q1⟩ => ?_) na rfl
  obtain ⟨a, rfl, q1⟩ := q1
  rw [Vals.ref1 r1]
  rcases q1 with ⟨ks, hq, hl, q⟩ | ⟨ks, hq, hl, q⟩
  · exact sset_go (kInt X.prog X.w) hc I1 hq hl q
  · exact sset_go (kStr X.prog X.w) hc I1 hq hl q
end
/-! on trees -/
def strsD : List D → Option (List Str)
  | [] => some []
  | .str i :: ds => (strsD ds).map (i :: ·)
  | _ :: _ => none
theorem strsD_eq : ∀ {ds : List D} {ns : List Str}, strsD ds = some ns → ds = ns.map .str
  | [], ns, h => by cases h; rfl
  | d :: ds, ns, h => by
    cases d <;> simp only [strsD, reduceCtorEq] at h
    cases e : strsD ds with
    | none => rw [e] at h; cases h
    | some m =>
      rw [e] at h
      cases h
      rw [strsD_eq e]; rfl
def fSset : List D → Option EV
  | [.lst ds] => if ds.length < 4000 then (match intsD ds with
    | some ns => some (.new (.lst ((sortU ltI ns).map .int)))
    | none => (strsD ds).map fun ns => .new (.lst ((sortU ltS ns).map .str))) else none
  | _ => none
section
variable {K : PySem.W.Frag} {L : Addr → Prop} {H : Hp}
theorem reps_flat {κ : Type} {f : κ → D} {g : κ → V} (hf : ∀ k v, Rep K L H (f k) v → v = g k) : ∀ {ks : List κ} {vs : List V}, Reps K L H (ks.map f) vs → vs = ks.map g
  | [], vs, r => r.invN
  | k :: ks, vs, r => by
    obtain ⟨v, rs, rfl, h1, h2⟩ := r.inv
    rw [List.map_cons, reps_flat hf h2, hf k v h1]
theorem flat_reps {κ : Type} {f : κ → D} {g : κ → V} (hf : ∀ k, Rep K L H (f k) (g k)) : ∀ ks : List κ, Reps K L H (ks.map f) (ks.map g)
  | [] => Reps.nil
  | k :: ks => Reps.cons (hf k) (flat_reps hf ks)
end
theorem on_sset {K : PySem.W.Frag} : OpN K fSset (rSS K) := by
  intro Acc ι μ H ds xs e Q S r h q
  cases ds with
  | nil => cases h
  | cons d t =>
    cases t with
    | cons _ _ => cases d <;> cases h
    | nil =>
      obtain ⟨v, rs, rfl, h1, h2⟩ := r
      have h2 : rs = [] := h2
      subst h2
      cases d <;> try (cases h; done)
      rename_i ds
      obtain ⟨a, vs, rfl, tp, rp⟩ := seeL h1
      simp only [fSset] at h
      split at h
      case isFalse => cases h
      case isTrue hz =>
        have fi : ∀ (k : Int) v, Rep K (Liv Acc μ ι) H (.int k) v → v = V.int k := fun k v r => by simpa only [Rep] using r
        have fs : ∀ (k : Str) v, Rep K (Liv Acc μ ι) H (.str k) v → v = V.str k := fun k v r => by simpa only [Rep] using r
        refine ⟨a, rfl, ?_⟩
        cases hT : intsD ds with
        | some ns =>
          rw [hT] at h
          cases h
          have ed := intsD_eq hT
          subst ed
          have ev := reps_flat fi rp
          subst ev
          refine .inl ⟨ns, SqL.of tp, by simpa using hz, fun p np => ?_⟩
          have rr : Reps K (Liv Acc μ ι) H ((sortU ltI ns).map D.int) ((sortU ltI ns).map V.int) := flat_reps (fun k => by simp only [Rep]) _
          exact q (.ref p) _ (S.up np _) ⟨⟨p, rfl, np, S.newL np rr⟩, S.ownN np rr⟩
        | none =>
          rw [hT] at h
          simp only at h
          cases hS : strsD ds with
          | none => rw [hS] at h; cases h
          | some ns =>
            rw [hS] at h
            cases h
            have ed := strsD_eq hS
            subst ed
            have ev := reps_flat fs rp
            subst ev
            refine .inr ⟨ns, SqL.of tp, by simpa using hz, fun p np => ?_⟩
            have rr : Reps K (Liv Acc μ ι) H ((sortU ltS ns).map D.str) ((sortU ltS ns).map V.str) := flat_reps (fun k => by simp only [Rep]) _
            exact q (.ref p) _ (S.up np _) ⟨⟨p, rfl, np, S.newL np rr⟩, S.ownN np rr⟩
section
variable {X : Cx} {XC : Nat → Addr} {F : Fns} {W : WX} {e : Expr} {fs : SA} {p p2 q pos : Pos}
theorem w_sset (hm : X.mg "sorted" = none) (hm2 : X.mg "set" = none) (ha : PA X [e] (rdA X.K XC F W fs)) (hc : X.calm = true := by rfl) (hg : Gl X "sorted" := by rfl) (hg2 : Gl X "set" := by rfl)
    (na : starEach [e] X.env = (false, eval e X.env) :: starEach [] X.env := by rfl) : PE X (.Call (.Name "sorted" p) [.Call (.Name "set" p2) [e] [] q] [] pos) (rdE X.K XC F W (eCb fSset fs)) :=
  PEimp (pe_sset hc hg hm hg2 hm2 ha na) fun _ _ _ h => callN_ok on_sset h
end
end VM
set_option maxHeartbeats 0
namespace Law
open PySem L2 VM PyProof.Rows
def top (i : Nat) : Stmt := PySem.Challenge.pw_nearestpattern_k11_any_value_as_term.main.body.getD i (.Pass ⟨0, 0, 0, 0⟩)
abbrev S_is_integer : Stmt := top 1
abbrev S_is_name : Stmt := top 13
abbrev S_is_variable : Stmt := top 14
abbrev S_is_head : Stmt := top 15
abbrev S_is_rest : Stmt := top 16
abbrev S_is_applied : Stmt := top 17
abbrev S_standings : Stmt := top 18
abbrev S_have_one_sort : Stmt := top 19
abbrev S_pieces : Stmt := top 20
abbrev S_numbers_of : Stmt := top 21
abbrev S_names_of : Stmt := top 22
abbrev S_is_term : Stmt := top 23
abbrev S_is_kind : Stmt := top 24
abbrev S_is_pattern : Stmt := top 25
abbrev S__law_pot : Stmt := top 27
abbrev S__law_draw : Stmt := top 28
abbrev S__law_pick : Stmt := top 29
abbrev S__law_are_in : Stmt := top 30
abbrev S__law_is_name : Stmt := top 31
abbrev S__law_is_variable : Stmt := top 32
abbrev S__law_is_number : Stmt := top 33
abbrev S__law_things : Stmt := top 34
abbrev S__law_is_term : Stmt := top 35
abbrev S__law_due : Stmt := top 36
abbrev S__law_leaf : Stmt := top 37
abbrev S__law_value : Stmt := top 38
abbrev S__law_chain : Stmt := top 39
abbrev S_law : Stmt := top 40
abbrev N_is_integer : List Str := ["value"]
abbrev N_is_name : List Str := ["value", "sign"]
abbrev N_is_variable : List Str := ["value", "sign"]
abbrev N_is_head : List Str := ["value"]
abbrev N_is_rest : List Str := ["value"]
abbrev N_is_applied : List Str := ["value"]
abbrev N_standings : List Str := ["value", "found", "waiting", "here", "is_last", "last", "at"]
abbrev N_have_one_sort : List Str := ["found", "sorts", "sort", "variable"]
abbrev N_pieces : List Str := ["term", "found", "waiting", "here", "level", "arg"]
abbrev N_numbers_of : List Str := ["term", "piece", "level"]
abbrev N_names_of : List Str := ["term", "piece", "level"]
abbrev N_is_term : List Str := ["value", "found"]
abbrev N_is_kind : List Str := ["value"]
abbrev N_is_pattern : List Str := ["value", "are_told", "number", "name"]
abbrev N__law_pot : List Str := ["script", "k", "cell"]
abbrev N__law_draw : List Str := ["pot", "many", "digit"]
abbrev N__law_pick : List Str := ["pot", "some"]
abbrev N__law_are_in : List Str := ["signs", "some", "sign"]
abbrev N__law_is_name : List Str := ["value", "small"]
abbrev N__law_is_variable : List Str := ["value"]
abbrev N__law_is_number : List Str := ["value"]
abbrev N__law_things : List Str := ["value", "head", "args", "found", "at", "arg", "more"]
abbrev N__law_is_term : List Str := ["things", "sorts", "sort", "thing"]
abbrev N__law_due : List Str := ["value", "things", "is_kind_due", "numbers", "names", "is_small", "sort", "thing", "number", "name"]
abbrev N__law_leaf : List Str := ["pot", "way"]
abbrev N__law_value : List Str := ["pot", "deep", "is_odd", "leaf", "heads", "head", "args", "turn"]
abbrev N__law_chain : List Str := ["pot", "is_odd", "value", "turn", "args", "late"]
abbrev N_law : List Str := ["script", "pot", "turn", "is_odd", "value", "told"]
def P_is_integer : SS := sRet (eAnd (eIsi .int (eV 0)) (eNot (eIsi .bool (eV 0))))
def P_is_name : SS := sSeq (sIf (bOr (bNot (bTru (eIsi .str (eV 0)))) (bOr (bNot (bChain (opCmp .LtE) (opCmp .LtE) (eC (.int 1)) (eCb bLen (evs [eV 0])) (eC (.int 8)))) (bCmp (opCmp .NotIn) (eIx (eV 0) (eC (.int 0))) (eC (.str "abcdefghijklmnopqrstuvwxyz"))))) (sRet (eC (.bl false))) (sPass)) (sRet (eCb bAll (evs [eLc (iOf (eV 0)) (.nm 1) (bYes) (eOr (eCmp (opCmp .In) (eV 1) (eC (.str "abcdefghijklmnopqrstuvwxyz"))) (eCmp (opCmp .In) (eV 1) (eC (.str "0123456789")))) [1]])))
def P_is_variable : SS := sSeq (sIf (bOr (bNot (bTru (eIsi .str (eV 0)))) (bOr (bNot (bChain (opCmp .LtE) (opCmp .LtE) (eC (.int 1)) (eCb bLen (evs [eV 0])) (eBin .Add (eC (.int 2)) (eC (.int 1))))) (bCmp (opCmp .NotIn) (eIx (eV 0) (eC (.int 0))) (eC (.str "ABCDEFGHIJKLMNOPQRSTUVWXYZ"))))) (sRet (eC (.bl false))) (sPass)) (sRet (eCb bAll (evs [eLc (iOf (eSl (eV 0) (oSome (eC (.int 1))) (oNone))) (.nm 1) (bYes) (eCmp (opCmp .In) (eV 1) (eC (.str "0123456789"))) [1]])))
def P_is_head : SS := sRet (eOr (eCall 1 (evs [eV 0])) (eCall 2 (evs [eV 0])))
def P_is_rest : SS := sRet (eAnd (eIsi .str (eV 0)) (eAnd (eCmp (opCmp .Eq) (eSl (eV 0) (oNone) (oSome (eC (.int 1)))) (eC (.str "*"))) (eCall 2 (evs [eSl (eV 0) (oSome (eC (.int 1))) (oNone)]))))
def P_is_applied : SS := sRet (eAnd (eIsi .tuple (eV 0)) (eCmp (opCmp .Eq) (eCb bLen (evs [eV 0])) (eC (.int 2))))
def P_standings : SS := sSeq (sPar 1 2 (eLst (evs [])) (eLst (evs [eTup (evs [eV 0, eC (.bl false)])]))) (sSeq (sWhile (bCmp (opCmp .NotEq) (eV 2) (eLst (evs []))) (sSeq (sAsg (eCM aPop (eV 2) (evs [])) (gTp [gNm 3, gNm 4])) (sIf (bTru (eCall 2 (evs [eV 3]))) (sDrop (eCM aAppend (eV 1) (evs [eTup (evs [eC (.str "term"), eV 3])]))) (sIf (bAnd (bTru (eV 4)) (bTru (eCall 4 (evs [eV 3])))) (sDrop (eCM aAppend (eV 1) (evs [eTup (evs [eC (.str "rest"), eSl (eV 3) (oSome (eC (.int 1))) (oNone)])]))) (sIf (bAnd (bTru (eCall 5 (evs [eV 3]))) (bAnd (bTru (eCall 3 (evs [eIx (eV 3) (eC (.int 0))]))) (bTru (eIsi .tuple (eIx (eV 3) (eC (.int 1))))))) (sSeq (sIf (bTru (eCall 2 (evs [eIx (eV 3) (eC (.int 0))]))) (sDrop (eCM aAppend (eV 1) (evs [eTup (evs [eC (.str "head"), eIx (eV 3) (eC (.int 0))])]))) (sPass)) (sSeq (sSet 5 (eBin .Sub (eCb bLen (evs [eIx (eV 3) (eC (.int 1))])) (eC (.int 1)))) (sDrop (eCM aExtend (eV 2) (evs [eLc (iRange (evs [eV 5, eNeg (eC (.int 1)), eNeg (eC (.int 1))])) (.nm 6) (bYes) (eTup (evs [eIx (eIx (eV 3) (eC (.int 1))) (eV 6), eCmp (opCmp .Eq) (eV 6) (eV 5)])) [6]]))))) (sIf (bNot (bTru (eCall 0 (evs [eV 3])))) (sRet (eC .non)) (sPass))))))) (sRet (eV 1)))
def P_have_one_sort : SS := sSeq (sSet 1 (eDict0)) (sRet (eCb bAll (evs [eLc (iOf (eV 0)) (.tup [.nm 2, .nm 3]) (bYes) (eCmp (opCmp .Eq) (eSetd (eV 1) (eV 3) (eV 2)) (eV 2)) [2, 3]])))
def P_pieces : SS := sSeq (sPar 1 2 (eLst (evs [])) (eLst (evs [eTup (evs [eV 0, eC (.int 1)])]))) (sSeq (sWhile (bCmp (opCmp .NotEq) (eV 2) (eLst (evs []))) (sSeq (sAsg (eCM aPop (eV 2) (evs [])) (gTp [gNm 3, gNm 4])) (sSeq (sDrop (eCM aAppend (eV 1) (evs [eTup (evs [eV 3, eV 4])]))) (sIf (bTru (eCall 5 (evs [eV 3]))) (sDrop (eCM aExtend (eV 2) (evs [eLc (iOf (eRev (eIx (eV 3) (eC (.int 1))))) (.nm 5) (bYes) (eTup (evs [eV 5, eBin .Add (eV 4) (eC (.int 1))])) [5]]))) (sPass))))) (sRet (eV 1)))
def P_numbers_of : SS := sRet (eCb fSset (evs [eLc (iOf (eCall 8 (evs [eV 0]))) (.tup [.nm 1, .nm 2]) (bTru (eCall 0 (evs [eV 1]))) (eV 1) [1, 2]]))
def P_names_of : SS := sRet (eCb fSset (evs [eLc (iOf (eCall 8 (evs [eV 0]))) (.tup [.nm 1, .nm 2]) (bAnd (bTru (eCall 5 (evs [eV 1]))) (bTru (eCall 1 (evs [eIx (eV 1) (eC (.int 0))])))) (eIx (eV 1) (eC (.int 0))) [1, 2]]))
def P_is_term : SS := sSeq (sSet 1 (eCall 6 (evs [eV 0]))) (sRet (eAnd (eCmp (opCmp .IsNot) (eV 1) (eC .non)) (eCall 7 (evs [eV 1]))))
def P_is_kind : SS := sRet (eCmp (opCmp .Eq) (eCall 6 (evs [eV 0])) (eLst (evs [])))
def P_is_pattern : SS := sSeq (sIf (bNot (bTru (eCall 11 (evs [eV 0])))) (sRet (eC (.bl false))) (sPass)) (sSeq (sSet 1 (eCb bAll (evs [eLc (iOf (eCall 9 (evs [eV 0]))) (.nm 2) (bYes) (eCmp (opCmp .LtE) (eCb bAbs (evs [eV 2])) (eC (.int 999))) [2]]))) (sRet (eAnd (eV 1) (eNot (eCb bAny (evs [eLc (iOf (eCall 10 (evs [eV 0]))) (.nm 3) (bYes) (eCmp (opCmp .Eq) (eSl (eV 3) (oNone) (oSome (eC (.int 2)))) (eC (.str "zz"))) [3]]))))))
def P__law_pot : SS := sSeq (sSet 2 (eIf (bCmp (opCmp .Lt) (eV 1) (eCb bLen (evs [eV 0]))) (eCb bAbs (evs [eIx (eV 0) (eV 1)])) (eBin .Add (eBin .Mult (eC (.int 281)) (eV 1)) (eC (.int 193))))) (sRet (eLst (evs [eCb bMax (evs [eC (.int 0), eBin .Sub (eV 2) (eBin .Pow (eC (.int 10)) (eC (.int 18)))]), eBin .Add (eBin .Mod (eCb bInt (evs [eBin .Add (eBin .Add (eBin .Mult (eBin .Mod (eCb bInt (evs [eV 2])) (eC (.int 2147483549))) (eC (.int 39373))) (eBin .Mult (eC (.int 5087)) (eV 1))) (eC (.int 223))])) (eC (.int 2147483563))) (eC (.int 1))])))
def P__law_draw : SS := sSeq (sIf (bCmp (opCmp .Gt) (eIx (eV 0) (eC (.int 0))) (eC (.int 0))) (sSeq (sAsg (eCb bDivmod (evs [eIx (eV 0) (eC (.int 0)), eV 1])) (gTp [gSb (eV 0) (eC (.int 0)), gNm 2])) (sRet (eV 2))) (sPass)) (sSeq (sAsg (eBin .Mod (eCb bInt (evs [eBin .Add (eBin .Mult (eIx (eV 0) (eC (.int 1))) (eC (.int 44485))) (eC (.int 6197))])) (eC (.int 2147483587))) (gSb (eV 0) (eC (.int 1)))) (sRet (eBin .Mod (eCb bInt (evs [eBin .FloorDiv (eBin .Mod (eCb bInt (evs [eBin .Mult (eIx (eV 0) (eC (.int 1))) (eIx (eV 0) (eC (.int 1)))])) (eC (.int 2147483549))) (eC (.int 13))])) (eV 1))))
def P__law_pick : SS := sRet (eIx (eV 1) (eCall 15 (evs [eV 0, eCb bLen (evs [eV 1])])))
def P__law_are_in : SS := sRet (eCb bAll (evs [eLc (iOf (eV 0)) (.nm 2) (bYes) (eCmp (opCmp .In) (eV 2) (eV 1)) [2]]))
def P__law_is_name : SS := sSeq (sIf (bOr (bNot (bTru (eIsi .str (eV 0)))) (bNot (bChain (opCmp .LtE) (opCmp .LtE) (eC (.int 1)) (eCb bLen (evs [eV 0])) (eC (.int 8))))) (sRet (eC (.bl false))) (sPass)) (sSeq (sSet 1 (eC (.str "abcdefghijklmnopqrstuvwxyz"))) (sRet (eAnd (eCmp (opCmp .In) (eIx (eV 0) (eC (.int 0))) (eV 1)) (eCall 17 (evs [eV 0, eBin .Add (eV 1) (eC (.str "0123456789"))])))))
def P__law_is_variable : SS := sSeq (sIf (bOr (bNot (bTru (eIsi .str (eV 0)))) (bNot (bChain (opCmp .LtE) (opCmp .LtE) (eC (.int 1)) (eCb bLen (evs [eV 0])) (eC (.int 3))))) (sRet (eC (.bl false))) (sPass)) (sRet (eAnd (eCmp (opCmp .In) (eIx (eV 0) (eC (.int 0))) (eC (.str "ABCDEFGHIJKLMNOPQRSTUVWXYZ"))) (eCall 17 (evs [eSl (eV 0) (oSome (eC (.int 1))) (oNone), eC (.str "0123456789")]))))
def P__law_is_number : SS := sRet (eAnd (eIsi .int (eV 0)) (eAnd (eCmp (opCmp .IsNot) (eV 0) (eC (.bl true))) (eCmp (opCmp .IsNot) (eV 0) (eC (.bl false)))))
def P__law_things : SS := sSeq (sIf (bTru (eCall 20 (evs [eV 0]))) (sRet (eLst (evs [eTup (evs [eC (.str "number"), eV 0])]))) (sPass)) (sSeq (sIf (bTru (eCall 19 (evs [eV 0]))) (sRet (eLst (evs [eTup (evs [eC (.str "term"), eV 0])]))) (sPass)) (sSeq (sIf (bOr (bNot (bTru (eIsi .tuple (eV 0)))) (bOr (bCmp (opCmp .NotEq) (eCb bLen (evs [eV 0])) (eC (.int 2))) (bNot (bTru (eIsi .tuple (eIx (eV 0) (eC (.int 1)))))))) (sRet (eC .non)) (sPass)) (sSeq (sAsg (eV 0) (gTp [gNm 1, gNm 2])) (sSeq (sIf (bAnd (bNot (bTru (eCall 18 (evs [eV 1])))) (bNot (bTru (eCall 19 (evs [eV 1]))))) (sRet (eC .non)) (sPass)) (sSeq (sSet 3 (eLst (evs [eTup (evs [eIf (bTru (eCall 18 (evs [eV 1]))) (eC (.str "name")) (eC (.str "head")), eV 1])]))) (sSeq (sFor (iEnm (eV 2)) (gTp [gNm 4, gNm 5]) (sSeq (sIf (bAnd (bTru (eIsi .str (eV 5))) (bCmp (opCmp .Eq) (eSl (eV 5) (oNone) (oSome (eC (.int 1)))) (eC (.str "*")))) (sSet 6 (eIf (bAnd (bTru (eCall 19 (evs [eSl (eV 5) (oSome (eC (.int 1))) (oNone)]))) (bCmp (opCmp .Eq) (eV 4) (eBin .Sub (eCb bLen (evs [eV 2])) (eC (.int 1))))) (eLst (evs [eTup (evs [eC (.str "rest"), eSl (eV 5) (oSome (eC (.int 1))) (oNone)])])) (eC .non))) (sSet 6 (eCall 21 (evs [eV 5])))) (sSeq (sIf (bCmp (opCmp .Is) (eV 6) (eC .non)) (sRet (eC .non)) (sPass)) (sSet 3 (eBin .Add (eV 3) (eV 6)))))) (sRet (eV 3))))))))
def P__law_is_term : SS := sSeq (sIf (bCmp (opCmp .Is) (eV 0) (eC .non)) (sRet (eC (.bl false))) (sPass)) (sSeq (sSet 1 (eDict0)) (sSeq (sFor (iOf (eV 0)) (gTp [gNm 2, gNm 3]) (sIf (bCmp (opCmp .In) (eV 2) (eLst (evs [eC (.str "term"), eC (.str "head"), eC (.str "rest")]))) (sSeq (sIf (bCmp (opCmp .NotEq) (eGet2 (eV 1) (eV 3) (eV 2)) (eV 2)) (sRet (eC (.bl false))) (sPass)) (sAsg (eV 2) (gSb (eV 1) (eV 3)))) (sPass))) (sRet (eC (.bl true)))))
def P__law_due : SS := sSeq (sSet 1 (eCall 21 (evs [eV 0]))) (sSeq (sIf (bNot (bTru (eCall 22 (evs [eV 1])))) (sRet (eLst (evs [eC (.bl false), eC (.bl false), eC (.bl false)]))) (sPass)) (sSeq (sSet 2 (eCmp (opCmp .Eq) (eLc (iOf (eV 1)) (.tup [.nm 6, .nm 7]) (bCmp (opCmp .In) (eV 6) (eLst (evs [eC (.str "term"), eC (.str "head"), eC (.str "rest")]))) (eC (.int 1)) [6, 7]) (eLst (evs [])))) (sSeq (sSet 3 (eLc (iOf (eV 1)) (.tup [.nm 6, .nm 7]) (bCmp (opCmp .Eq) (eV 6) (eC (.str "number"))) (eV 7) [6, 7])) (sSeq (sSet 4 (eLc (iOf (eV 1)) (.tup [.nm 6, .nm 7]) (bCmp (opCmp .Eq) (eV 6) (eC (.str "name"))) (eV 7) [6, 7])) (sSeq (sSet 5 (eCb bAll (evs [eLc (iOf (eV 3)) (.nm 8) (bYes) (eChain (opCmp .LtE) (opCmp .LtE) (eNeg (eC (.int 999))) (eV 8) (eC (.int 999))) [8]]))) (sRet (eLst (evs [eC (.bl true), eV 2, eAnd (eV 5) (eCb bAll (evs [eLc (iOf (eV 4)) (.nm 9) (bYes) (eCmp (opCmp .NotEq) (eSl (eV 9) (oNone) (oSome (eC (.int 2)))) (eC (.str "zz"))) [9]]))]))))))))
def P__law_leaf : SS := sSeq (sSet 1 (eCall 15 (evs [eV 0, eC (.int 8)]))) (sSeq (sIf (bCmp (opCmp .Lt) (eV 1) (eC (.int 3))) (sRet (eCall 16 (evs [eV 0, eLst (evs [eC (.str "X"), eC (.str "Y"), eC (.str "S"), eC (.str "H"), eC (.str "Z9"), eC (.str "A10"), eC (.str "X")])]))) (sPass)) (sSeq (sIf (bCmp (opCmp .Lt) (eV 1) (eC (.int 5))) (sRet (eCall 16 (evs [eV 0, eLst (evs [eC (.int 0), eC (.int 1), eNeg (eC (.int 1)), eC (.int 999), eNeg (eC (.int 999)), eC (.int 1000), eNeg (eC (.int 1000)), eBin .Pow (eC (.int 10)) (eC (.int 12)), eC (.int 7)])]))) (sPass)) (sSeq (sIf (bCmp (opCmp .Eq) (eV 1) (eC (.int 5))) (sRet (eTup (evs [eCall 16 (evs [eV 0, eLst (evs [eC (.str "a"), eC (.str "int"), eC (.str "zz"), eC (.str "zz0"), eC (.str "z"), eC (.str "abcdefgh"), eC (.str "H"), eC (.str "a1")])]), eTup (evs [])]))) (sPass)) (sSeq (sIf (bCmp (opCmp .Eq) (eV 1) (eC (.int 6))) (sRet (eCall 16 (evs [eV 0, eLst (evs [eC .non, eC (.bl true), eC (.bl false), eC (.str "x"), eC (.str ""), eC (.str "X100"), eC (.str "Xy"), eC (.str "*S"), eC (.str "*"), eC (.str "X*"), eC (.str "1")])]))) (sPass)) (sRet (eCall 16 (evs [eV 0, eLst (evs [eLst (evs []), eTup (evs []), eDict0, eTup (evs [eC (.str "f")]), eTup (evs [eC (.str "f"), eLst (evs [])]), eLst (evs [eC (.str "f"), eTup (evs [])]), eTup (evs [eC (.str "F1g"), eTup (evs [])]), eTup (evs [eC (.str ""), eTup (evs [])]), eTup (evs [eC (.str "abcdefghi"), eTup (evs [])]), eTup (evs [eC (.str "f"), eTup (evs []), eTup (evs [])]), eTup (evs [eC (.int 1), eTup (evs [])]), eTup (evs [eC (.str "f"), eC .non]), eTup (evs [eC (.str "zZ"), eTup (evs [])])])])))))))
def P__law_value : SS := sSeq (sIf (bOr (bCmp (opCmp .Eq) (eV 1) (eC (.int 0))) (bCmp (opCmp .Eq) (eCall 15 (evs [eV 0, eC (.int 3)])) (eC (.int 0)))) (sSeq (sSet 3 (eCall 24 (evs [eV 0]))) (sRet (eIf (bOr (bTru (eV 2)) (bTru (eCall 22 (evs [eCall 21 (evs [eV 3])])))) (eV 3) (eC (.str "X"))))) (sPass)) (sSeq (sSet 4 (eLst (evs [eC (.str "f"), eC (.str "g"), eC (.str "zz1"), eC (.str "H"), eC (.str "H"), eC (.str "K2"), eC (.str "p")]))) (sSeq (sSet 5 (eCall 16 (evs [eV 0, eIf (bTru (eV 2)) (eBin .Add (eV 4) (eLst (evs [eC (.str "Hh"), eC (.str "aB"), eC .non, eC (.int 3)]))) (eV 4)]))) (sSeq (sSet 6 (eLc (iRange (evs [eCall 15 (evs [eV 0, eC (.int 4)])])) (.nm 7) (bYes) (eCall 25 (evs [eV 0, eBin .Sub (eV 1) (eC (.int 1)), eV 2])) [7])) (sSeq (sIf (bCmp (opCmp .Eq) (eCall 15 (evs [eV 0, eC (.int 3)])) (eC (.int 0))) (sDrop (eCM aAppend (eV 6) (evs [eCall 16 (evs [eV 0, eLst (evs [eC (.str "*S"), eC (.str "*T"), eC (.str "*T1"), eC (.str "*S")])])]))) (sPass)) (sSeq (sIf (bAnd (bTru (eV 2)) (bCmp (opCmp .Eq) (eCall 15 (evs [eV 0, eC (.int 4)])) (eC (.int 0)))) (sSet 6 (eBin .Add (eLst (evs [eC (.str "*S")])) (eV 6))) (sPass)) (sRet (eIf (bAnd (bTru (eV 2)) (bCmp (opCmp .Eq) (eCall 15 (evs [eV 0, eC (.int 12)])) (eC (.int 0)))) (eTup (evs [eV 5, eV 6])) (eTup (evs [eV 5, eCb bTuple (evs [eV 6])])))))))))
def P__law_chain : SS := sSeq (sSet 2 (eCall 25 (evs [eV 0, eC (.int 1), eV 1]))) (sSeq (sFor (iRange (evs [eBin .Add (eC (.int 5)) (eCall 15 (evs [eV 0, eC (.int 11)]))])) (gNm 3) (sSeq (sSet 4 (eLc (iRange (evs [eCall 15 (evs [eV 0, eC (.int 4)])])) (.nm 5) (bYes) (eCall 25 (evs [eV 0, eC (.int 0), eC (.bl false)])) [5])) (sSeq (sDrop (eCM aInsert (eV 4) (evs [eCall 15 (evs [eV 0, eBin .Add (eCb bLen (evs [eV 4])) (eC (.int 1))]), eV 2]))) (sSet 2 (eTup (evs [eCall 16 (evs [eV 0, eLst (evs [eC (.str "f"), eC (.str "g"), eC (.str "H"), eC (.str "K2"), eC (.str "p")])]), eCb bTuple (evs [eV 4])])))))) (sRet (eV 2)))
def P_law : SS := sSeq (sSet 1 (eCall 14 (evs [eV 0, eC (.int 0)]))) (sSeq (sFor (iRange (evs [eC (.int 4)])) (gNm 2) (sSeq (sSet 3 (eCmp (opCmp .Eq) (eCall 15 (evs [eV 1, eC (.int 3)])) (eC (.int 0)))) (sSeq (sSet 4 (eIf (bCmp (opCmp .Eq) (eCall 15 (evs [eV 1, eC (.int 5)])) (eC (.int 0))) (eCall 26 (evs [eV 1, eV 3])) (eCall 25 (evs [eV 1, eBin .Add (eC (.int 1)) (eCall 15 (evs [eV 1, eC (.int 3)])), eV 3])))) (sSeq (sSet 5 (eLst (evs [eCall 11 (evs [eV 4]), eCall 12 (evs [eV 4]), eCall 13 (evs [eV 4])]))) (sSeq (sIf (bCmp (opCmp .NotEq) (eCb fRepr (evs [eV 5])) (eCb fRepr (evs [eCall 23 (evs [eV 4])]))) (sRet (eC (.bl false))) (sPass)) (sIf (bCmp (opCmp .NotEq) (eLst (evs [eCallK 11 (evs []) (evs [eV 4]) [0], eCallK 12 (evs []) (evs [eV 4]) [0], eCallK 13 (evs []) (evs [eV 4]) [0]])) (eV 5)) (sRet (eC (.bl false))) (sPass))))))) (sRet (eC (.bl true))))
def T : Tab := [(1, P_is_integer), (2, P_is_name), (2, P_is_variable), (1, P_is_head), (1, P_is_rest), (1, P_is_applied), (7, P_standings), (4, P_have_one_sort), (6, P_pieces), (3, P_numbers_of), (3, P_names_of), (2, P_is_term), (1, P_is_kind), (4, P_is_pattern), (3, P__law_pot), (3, P__law_draw), (2, P__law_pick), (3, P__law_are_in), (2, P__law_is_name), (1, P__law_is_variable), (1, P__law_is_number), (7, P__law_things), (4, P__law_is_term), (10, P__law_due), (2, P__law_leaf), (8, P__law_value), (6, P__law_chain), (6, P_law)]
variable {P : Program} {w : World} {K : PySem.W.Frag} {mg : Str → Option Value} {base : Heap}
/-- what the top holds -/
structure GC (mg : Str → Option Value) : Prop where
  b_abs : mg "abs" = none
  b_all : mg "all" = none
  b_any : mg "any" = none
  b_bool : mg "bool" = none
  b_divmod : mg "divmod" = none
  b_enumerate : mg "enumerate" = none
  b_int : mg "int" = none
  b_isinstance : mg "isinstance" = none
  b_len : mg "len" = none
  b_max : mg "max" = none
  b_range : mg "range" = none
  b_repr : mg "repr" = none
  b_set : mg "set" = none
  b_sorted : mg "sorted" = none
  b_str : mg "str" = none
  b_tuple : mg "tuple" = none
  c_DIGITS : HasC mg "DIGITS" (.str "0123456789")
  c_FRESH_NAME : HasC mg "FRESH_NAME" (.str "zz")
  c_GREAT : HasC mg "GREAT" (.str "ABCDEFGHIJKLMNOPQRSTUVWXYZ")
  c_HEAD : HasC mg "HEAD" (.str "head")
  c_MOST_DIGITS : HasC mg "MOST_DIGITS" (.int (2))
  c_MOST_NUMBER : HasC mg "MOST_NUMBER" (.int (999))
  c_MOST_SIGNS : HasC mg "MOST_SIGNS" (.int (8))
  c_REST : HasC mg "REST" (.str "rest")
  c_SMALL : HasC mg "SMALL" (.str "abcdefghijklmnopqrstuvwxyz")
  c_TERM : HasC mg "TERM" (.str "term")
structure G (P : Program) (w : World) (K : PySem.W.Frag) (mg : Str → Option Value) (base : Heap) (F : Fns) (n : Nat) : Prop extends GC mg where
  f_is_integer : FnR P w K mg base (fun _ => 0) F n 0 "is_integer" ["value"] S_is_integer
  f_is_name : FnR P w K mg base (fun _ => 0) F n 1 "is_name" ["value"] S_is_name
  f_is_variable : FnR P w K mg base (fun _ => 0) F n 2 "is_variable" ["value"] S_is_variable
  f_is_head : FnR P w K mg base (fun _ => 0) F n 3 "is_head" ["value"] S_is_head
  f_is_rest : FnR P w K mg base (fun _ => 0) F n 4 "is_rest" ["value"] S_is_rest
  f_is_applied : FnR P w K mg base (fun _ => 0) F n 5 "is_applied" ["value"] S_is_applied
  f_standings : FnR P w K mg base (fun _ => 0) F n 6 "standings" ["value"] S_standings
  f_have_one_sort : FnR P w K mg base (fun _ => 0) F n 7 "have_one_sort" ["found"] S_have_one_sort
  f_pieces : FnR P w K mg base (fun _ => 0) F n 8 "pieces" ["term"] S_pieces
  f_numbers_of : FnR P w K mg base (fun _ => 0) F n 9 "numbers_of" ["term"] S_numbers_of
  f_names_of : FnR P w K mg base (fun _ => 0) F n 10 "names_of" ["term"] S_names_of
  f_is_term : FnR P w K mg base (fun _ => 0) F n 11 "is_term" ["value"] S_is_term
  f_is_kind : FnR P w K mg base (fun _ => 0) F n 12 "is_kind" ["value"] S_is_kind
  f_is_pattern : FnR P w K mg base (fun _ => 0) F n 13 "is_pattern" ["value"] S_is_pattern
  f__law_pot : FnR P w K mg base (fun _ => 0) F n 14 "_law_pot" ["script", "k"] S__law_pot
  f__law_draw : FnR P w K mg base (fun _ => 0) F n 15 "_law_draw" ["pot", "many"] S__law_draw
  f__law_pick : FnR P w K mg base (fun _ => 0) F n 16 "_law_pick" ["pot", "some"] S__law_pick
  f__law_are_in : FnR P w K mg base (fun _ => 0) F n 17 "_law_are_in" ["signs", "some"] S__law_are_in
  f__law_is_name : FnR P w K mg base (fun _ => 0) F n 18 "_law_is_name" ["value"] S__law_is_name
  f__law_is_variable : FnR P w K mg base (fun _ => 0) F n 19 "_law_is_variable" ["value"] S__law_is_variable
  f__law_is_number : FnR P w K mg base (fun _ => 0) F n 20 "_law_is_number" ["value"] S__law_is_number
  f__law_things : FnR P w K mg base (fun _ => 0) F n 21 "_law_things" ["value"] S__law_things
  f__law_is_term : FnR P w K mg base (fun _ => 0) F n 22 "_law_is_term" ["things"] S__law_is_term
  f__law_due : FnR P w K mg base (fun _ => 0) F n 23 "_law_due" ["value"] S__law_due
  f__law_leaf : FnR P w K mg base (fun _ => 0) F n 24 "_law_leaf" ["pot"] S__law_leaf
  f__law_value : FnR P w K mg base (fun _ => 0) F n 25 "_law_value" ["pot", "deep", "is_odd"] S__law_value
  f__law_chain : FnR P w K mg base (fun _ => 0) F n 26 "_law_chain" ["pot", "is_odd"] S__law_chain
  f_law : FnR P w K mg base (fun _ => 0) F n 27 "law" ["script"] S_law
theorem sc_is_integer : FnScope N_is_integer ["value"] (defScope S_is_integer) := ⟨rfl, rfl, rfl, by decide +kernel, rfl, by decide +kernel, by decide +kernel⟩
theorem sc_is_name : FnScope N_is_name ["value"] (defScope S_is_name) := ⟨rfl, rfl, rfl, by decide +kernel, rfl, by decide +kernel, by decide +kernel⟩
theorem sc_is_variable : FnScope N_is_variable ["value"] (defScope S_is_variable) := ⟨rfl, rfl, rfl, by decide +kernel, rfl, by decide +kernel, by decide +kernel⟩
theorem sc_is_head : FnScope N_is_head ["value"] (defScope S_is_head) := ⟨rfl, rfl, rfl, by decide +kernel, rfl, by decide +kernel, by decide +kernel⟩
theorem sc_is_rest : FnScope N_is_rest ["value"] (defScope S_is_rest) := ⟨rfl, rfl, rfl, by decide +kernel, rfl, by decide +kernel, by decide +kernel⟩
theorem sc_is_applied : FnScope N_is_applied ["value"] (defScope S_is_applied) := ⟨rfl, rfl, rfl, by decide +kernel, rfl, by decide +kernel, by decide +kernel⟩
theorem sc_standings : FnScope N_standings ["value"] (defScope S_standings) := ⟨rfl, rfl, rfl, by decide +kernel, rfl, by decide +kernel, by decide +kernel⟩
theorem sc_have_one_sort : FnScope N_have_one_sort ["found"] (defScope S_have_one_sort) := ⟨rfl, rfl, rfl, by decide +kernel, rfl, by decide +kernel, by decide +kernel⟩
theorem sc_pieces : FnScope N_pieces ["term"] (defScope S_pieces) := ⟨rfl, rfl, rfl, by decide +kernel, rfl, by decide +kernel, by decide +kernel⟩
theorem sc_numbers_of : FnScope N_numbers_of ["term"] (defScope S_numbers_of) := ⟨rfl, rfl, rfl, by decide +kernel, rfl, by decide +kernel, by decide +kernel⟩
theorem sc_names_of : FnScope N_names_of ["term"] (defScope S_names_of) := ⟨rfl, rfl, rfl, by decide +kernel, rfl, by decide +kernel, by decide +kernel⟩
theorem sc_is_term : FnScope N_is_term ["value"] (defScope S_is_term) := ⟨rfl, rfl, rfl, by decide +kernel, rfl, by decide +kernel, by decide +kernel⟩
theorem sc_is_kind : FnScope N_is_kind ["value"] (defScope S_is_kind) := ⟨rfl, rfl, rfl, by decide +kernel, rfl, by decide +kernel, by decide +kernel⟩
theorem sc_is_pattern : FnScope N_is_pattern ["value"] (defScope S_is_pattern) := ⟨rfl, rfl, rfl, by decide +kernel, rfl, by decide +kernel, by decide +kernel⟩
theorem sc__law_pot : FnScope N__law_pot ["script", "k"] (defScope S__law_pot) := ⟨rfl, rfl, rfl, by decide +kernel, rfl, by decide +kernel, by decide +kernel⟩
theorem sc__law_draw : FnScope N__law_draw ["pot", "many"] (defScope S__law_draw) := ⟨rfl, rfl, rfl, by decide +kernel, rfl, by decide +kernel, by decide +kernel⟩
theorem sc__law_pick : FnScope N__law_pick ["pot", "some"] (defScope S__law_pick) := ⟨rfl, rfl, rfl, by decide +kernel, rfl, by decide +kernel, by decide +kernel⟩
theorem sc__law_are_in : FnScope N__law_are_in ["signs", "some"] (defScope S__law_are_in) := ⟨rfl, rfl, rfl, by decide +kernel, rfl, by decide +kernel, by decide +kernel⟩
theorem sc__law_is_name : FnScope N__law_is_name ["value"] (defScope S__law_is_name) := ⟨rfl, rfl, rfl, by decide +kernel, rfl, by decide +kernel, by decide +kernel⟩
theorem sc__law_is_variable : FnScope N__law_is_variable ["value"] (defScope S__law_is_variable) := ⟨rfl, rfl, rfl, by decide +kernel, rfl, by decide +kernel, by decide +kernel⟩
theorem sc__law_is_number : FnScope N__law_is_number ["value"] (defScope S__law_is_number) := ⟨rfl, rfl, rfl, by decide +kernel, rfl, by decide +kernel, by decide +kernel⟩
theorem sc__law_things : FnScope N__law_things ["value"] (defScope S__law_things) := ⟨rfl, rfl, rfl, by decide +kernel, rfl, by decide +kernel, by decide +kernel⟩
theorem sc__law_is_term : FnScope N__law_is_term ["things"] (defScope S__law_is_term) := ⟨rfl, rfl, rfl, by decide +kernel, rfl, by decide +kernel, by decide +kernel⟩
theorem sc__law_due : FnScope N__law_due ["value"] (defScope S__law_due) := ⟨rfl, rfl, rfl, by decide +kernel, rfl, by decide +kernel, by decide +kernel⟩
theorem sc__law_leaf : FnScope N__law_leaf ["pot"] (defScope S__law_leaf) := ⟨rfl, rfl, rfl, by decide +kernel, rfl, by decide +kernel, by decide +kernel⟩
theorem sc__law_value : FnScope N__law_value ["pot", "deep", "is_odd"] (defScope S__law_value) := ⟨rfl, rfl, rfl, by decide +kernel, rfl, by decide +kernel, by decide +kernel⟩
theorem sc__law_chain : FnScope N__law_chain ["pot", "is_odd"] (defScope S__law_chain) := ⟨rfl, rfl, rfl, by decide +kernel, rfl, by decide +kernel, by decide +kernel⟩
theorem sc_law : FnScope N_law ["script"] (defScope S_law) := ⟨rfl, rfl, rfl, by decide +kernel, rfl, by decide +kernel, by decide +kernel⟩
theorem k_is_integer {F : Fns} {n : Nat} (g : G P w K mg base F n) (f : Addr) (cdv : Value) (A : Around) (outer : List PySem.Env) (s : Shared) (H : Hp) (E : XK) (hr : Room n (A.deeper (envOfC "is_integer" (defScope S_is_integer) s.heap.objs.size f cdv))) (hG : A.guards = some []) :
    PSs (cxOf CX0 P w K mg base N_is_integer "is_integer" (defScope S_is_integer) f cdv A outer s H E).nox (defBody S_is_integer) (rdS K (fun _ => 0) F W0 P_is_integer) :=
  have nd := sc_is_integer.nd
  have hu := hu65 hr
  s_one (s_ret (c_and (w_isi .int g.b_isinstance (pe_bltn (by rfl) g.b_int boot_int rfl) (w_v 0)) (c_and1 (c_not (w_isi .bool g.b_isinstance (pe_bltn (by rfl) g.b_bool boot_bool rfl) (w_v 0))))))
theorem k_is_name {F : Fns} {n : Nat} (g : G P w K mg base F n) (f : Addr) (cdv : Value) (A : Around) (outer : List PySem.Env) (s : Shared) (H : Hp) (E : XK) (hr : Room n (A.deeper (envOfC "is_name" (defScope S_is_name) s.heap.objs.size f cdv))) (hG : A.guards = some []) :
    PSs (cxOf CX0 P w K mg base N_is_name "is_name" (defScope S_is_name) f cdv A outer s H E).nox (defBody S_is_name) (rdS K (fun _ => 0) F W0 P_is_name) :=
  have nd := sc_is_name.nd
  have hu := hu65 hr
  s_seq (s_if ((cw_or (ct_not (wt_tru (w_isi .str g.b_isinstance (pe_bltn (by rfl) g.b_str boot_str rfl) (w_v 0)))) (cw_or (ct_not (wt_chain hu (c_int) (w_fn or_len on_len boot_len g.b_len (a1 (w_v 0) (a0))) (w_gi g.c_MOST_SIGNS))) (cw_or1 (wt_cmp hu (w_ix hu (w_v 0) (c_int)) (w_gs g.c_SMALL))))).pt) (s_one (s_ret (c_bl))) (s_nil)) (s_one (s_ret (w_fn (cr_all rfl) on_all boot_all g.b_all (a1 (c_lc rfl nd (ci_of (w_v 0)) (blkOk_by (own := [("sign", 1)]) (by rfl)) (by decide) (by rfl) (fun _ _ _ _ _ => t_nm nd (by rfl) (by first | exact Or.inl rfl | exact Or.inr rfl)) (fun _ _ _ _ _ => q_yes) (fun _ _ _ _ _ => c_or (w_cmp hu (w_v 1) (w_gs g.c_SMALL)) (c_or1 (w_cmp hu (w_v 1) (w_gs g.c_DIGITS))))) (a0)))))
theorem k_is_variable {F : Fns} {n : Nat} (g : G P w K mg base F n) (f : Addr) (cdv : Value) (A : Around) (outer : List PySem.Env) (s : Shared) (H : Hp) (E : XK) (hr : Room n (A.deeper (envOfC "is_variable" (defScope S_is_variable) s.heap.objs.size f cdv))) (hG : A.guards = some []) :
    PSs (cxOf CX0 P w K mg base N_is_variable "is_variable" (defScope S_is_variable) f cdv A outer s H E).nox (defBody S_is_variable) (rdS K (fun _ => 0) F W0 P_is_variable) :=
  have nd := sc_is_variable.nd
  have hu := hu65 hr
  s_seq (s_if ((cw_or (ct_not (wt_tru (w_isi .str g.b_isinstance (pe_bltn (by rfl) g.b_str boot_str rfl) (w_v 0)))) (cw_or (ct_not (wt_chain hu (c_int) (w_fn or_len on_len boot_len g.b_len (a1 (w_v 0) (a0))) (w_bin (w_gi g.c_MOST_DIGITS) (c_int)))) (cw_or1 (wt_cmp hu (w_ix hu (w_v 0) (c_int)) (w_gs g.c_GREAT))))).pt) (s_one (s_ret (c_bl))) (s_nil)) (s_one (s_ret (w_fn (cr_all rfl) on_all boot_all g.b_all (a1 (c_lc rfl nd (ci_of (c_sl (w_v 0) (co_some (c_int)) (co_none))) (blkOk_by (own := [("sign", 1)]) (by rfl)) (by decide) (by rfl) (fun _ _ _ _ _ => t_nm nd (by rfl) (by first | exact Or.inl rfl | exact Or.inr rfl)) (fun _ _ _ _ _ => q_yes) (fun _ _ _ _ _ => w_cmp hu (w_v 1) (w_gs g.c_DIGITS))) (a0)))))
theorem k_is_head {F : Fns} {n : Nat} (g : G P w K mg base F n) (f : Addr) (cdv : Value) (A : Around) (outer : List PySem.Env) (s : Shared) (H : Hp) (E : XK) (hr : Room n (A.deeper (envOfC "is_head" (defScope S_is_head) s.heap.objs.size f cdv))) (hG : A.guards = some []) :
    PSs (cxOf CX0 P w K mg base N_is_head "is_head" (defScope S_is_head) f cdv A outer s H E).nox (defBody S_is_head) (rdS K (fun _ => 0) F W0 P_is_head) :=
  have nd := sc_is_head.nd
  have hu := hu65 hr
  s_one (s_ret (c_or (c_call g.f_is_name hr hG (by rfl) (a1 (w_v 0) (a0))) (c_or1 (c_call g.f_is_variable hr hG (by rfl) (a1 (w_v 0) (a0))))))
theorem k_is_rest {F : Fns} {n : Nat} (g : G P w K mg base F n) (f : Addr) (cdv : Value) (A : Around) (outer : List PySem.Env) (s : Shared) (H : Hp) (E : XK) (hr : Room n (A.deeper (envOfC "is_rest" (defScope S_is_rest) s.heap.objs.size f cdv))) (hG : A.guards = some []) :
    PSs (cxOf CX0 P w K mg base N_is_rest "is_rest" (defScope S_is_rest) f cdv A outer s H E).nox (defBody S_is_rest) (rdS K (fun _ => 0) F W0 P_is_rest) :=
  have nd := sc_is_rest.nd
  have hu := hu65 hr
  s_one (s_ret (c_and (w_isi .str g.b_isinstance (pe_bltn (by rfl) g.b_str boot_str rfl) (w_v 0)) (c_and (w_cmp hu (c_sl (w_v 0) (co_none) (co_some (c_int))) (c_str)) (c_and1 (c_call g.f_is_variable hr hG (by rfl) (a1 (c_sl (w_v 0) (co_some (c_int)) (co_none)) (a0)))))))
theorem k_is_applied {F : Fns} {n : Nat} (g : G P w K mg base F n) (f : Addr) (cdv : Value) (A : Around) (outer : List PySem.Env) (s : Shared) (H : Hp) (E : XK) (hr : Room n (A.deeper (envOfC "is_applied" (defScope S_is_applied) s.heap.objs.size f cdv))) (hG : A.guards = some []) :
    PSs (cxOf CX0 P w K mg base N_is_applied "is_applied" (defScope S_is_applied) f cdv A outer s H E).nox (defBody S_is_applied) (rdS K (fun _ => 0) F W0 P_is_applied) :=
  have nd := sc_is_applied.nd
  have hu := hu65 hr
  s_one (s_ret (c_and (w_isi .tuple g.b_isinstance (pe_bltn (by rfl) g.b_tuple boot_tuple rfl) (w_v 0)) (c_and1 (w_cmp hu (w_fn or_len on_len boot_len g.b_len (a1 (w_v 0) (a0))) (c_int)))))
theorem k_standings {F : Fns} {n : Nat} (g : G P w K mg base F n) (f : Addr) (cdv : Value) (A : Around) (outer : List PySem.Env) (s : Shared) (H : Hp) (E : XK) (hr : Room n (A.deeper (envOfC "standings" (defScope S_standings) s.heap.objs.size f cdv))) (hG : A.guards = some []) :
    PSs (cxOf CX0 P w K mg base N_standings "standings" (defScope S_standings) f cdv A outer s H E).nox (defBody S_standings) (rdS K (fun _ => 0) F W0 P_standings) :=
  have nd := sc_standings.nd
  have hu := hu65 hr
  s_seq (s_par rfl nd (by rfl) (by rfl) (by decide) (by rfl) (by rfl) (c_lst (a0)) (c_lst (a1 (c_tup (a1 (w_v 0) (a1 (c_bl) (a0)))) (a0))) (by rfl)) (s_seq (s_while PassesOwn.never (wt_cmp hu (w_v 2) (c_lst (a0))) (s_seq (s_asg (c_pop (w_v 2)) (g_tp rfl (gs_cons (g_nm nd (by rfl) (by first | exact Or.inl rfl | exact Or.inr rfl)) (gs_cons (g_nm nd (by rfl) (by first | exact Or.inl rfl | exact Or.inr rfl)) (gs_nil))))) (s_one (s_if (wt_tru (c_call g.f_is_variable hr hG (by rfl) (a1 (w_v 3) (a0)))) (s_one (s_drop (c_append (w_v 1) (c_tup (a1 (w_gs g.c_TERM) (a1 (w_v 3) (a0))))))) (s_one (s_if ((cw_and (wt_tru (w_v 4)) (cw_and1 (wt_tru (c_call g.f_is_rest hr hG (by rfl) (a1 (w_v 3) (a0)))))).pt) (s_one (s_drop (c_append (w_v 1) (c_tup (a1 (w_gs g.c_REST) (a1 (c_sl (w_v 3) (co_some (c_int)) (co_none)) (a0))))))) (s_one (s_if ((cw_and (wt_tru (c_call g.f_is_applied hr hG (by rfl) (a1 (w_v 3) (a0)))) (cw_and (wt_tru (c_call g.f_is_head hr hG (by rfl) (a1 (w_ix hu (w_v 3) (c_int)) (a0)))) (cw_and1 (wt_tru (w_isi .tuple g.b_isinstance (pe_bltn (by rfl) g.b_tuple boot_tuple rfl) (w_ix hu (w_v 3) (c_int))))))).pt) (s_seq (s_if (wt_tru (c_call g.f_is_variable hr hG (by rfl) (a1 (w_ix hu (w_v 3) (c_int)) (a0)))) (s_one (s_drop (c_append (w_v 1) (c_tup (a1 (w_gs g.c_HEAD) (a1 (w_ix hu (w_v 3) (c_int)) (a0))))))) (s_nil)) (s_seq (s_set nd (by rfl) (by first | exact Or.inl rfl | exact Or.inr rfl) (w_bin (w_fn or_len on_len boot_len g.b_len (a1 (w_ix hu (w_v 3) (c_int)) (a0))) (c_int))) (s_one (s_drop (c_extend (w_v 2) (c_lc rfl nd (w_r3 g.b_range (w_v 5) (c_neg (c_int)) (c_neg (c_int))) (blkOk_by (own := [("at", 6)]) (by rfl)) (by decide) (by rfl) (fun _ _ _ _ _ => t_nm nd (by rfl) (by first | exact Or.inl rfl | exact Or.inr rfl)) (fun _ _ _ _ _ => q_yes) (fun _ _ _ _ _ => c_tup (a1 (w_ix hu (w_ix hu (w_v 3) (c_int)) (w_v 6)) (a1 (w_cmp hu (w_v 6) (w_v 5)) (a0)))))))))) (s_one (s_if (ct_not (wt_tru (c_call g.f_is_integer hr hG (by rfl) (a1 (w_v 3) (a0))))) (s_one (s_ret (c_non))) (s_nil))))))))))) (s_one (s_ret (w_v 1))))
theorem k_have_one_sort {F : Fns} {n : Nat} (g : G P w K mg base F n) (f : Addr) (cdv : Value) (A : Around) (outer : List PySem.Env) (s : Shared) (H : Hp) (E : XK) (hr : Room n (A.deeper (envOfC "have_one_sort" (defScope S_have_one_sort) s.heap.objs.size f cdv))) (hG : A.guards = some []) :
    PSs (cxOf CX0 P w K mg base N_have_one_sort "have_one_sort" (defScope S_have_one_sort) f cdv A outer s H E).nox (defBody S_have_one_sort) (rdS K (fun _ => 0) F W0 P_have_one_sort) :=
  have nd := sc_have_one_sort.nd
  have hu := hu65 hr
  s_seq (s_set nd (by rfl) (by first | exact Or.inl rfl | exact Or.inr rfl) (c_dict0)) (s_one (s_ret (w_fn (cr_all rfl) on_all boot_all g.b_all (a1 (c_lc rfl nd (ci_of (w_v 0)) (blkOk_by (own := [("sort", 2), ("variable", 3)]) (by rfl)) (by decide) (by rfl) (fun _ _ _ _ _ => t_tp rfl (t_cons (t_nm nd (by rfl) (by first | exact Or.inl rfl | exact Or.inr rfl)) (t_cons (t_nm nd (by rfl) (by first | exact Or.inl rfl | exact Or.inr rfl)) (t_nil)))) (fun _ _ _ _ _ => q_yes) (fun _ _ _ _ _ => w_cmp hu (c_setd (w_v 1) (w_v 3) (w_v 2) ⟨by rfl, by rfl, by rfl, by rfl⟩) (w_v 2))) (a0)))))
theorem k_pieces {F : Fns} {n : Nat} (g : G P w K mg base F n) (f : Addr) (cdv : Value) (A : Around) (outer : List PySem.Env) (s : Shared) (H : Hp) (E : XK) (hr : Room n (A.deeper (envOfC "pieces" (defScope S_pieces) s.heap.objs.size f cdv))) (hG : A.guards = some []) :
    PSs (cxOf CX0 P w K mg base N_pieces "pieces" (defScope S_pieces) f cdv A outer s H E).nox (defBody S_pieces) (rdS K (fun _ => 0) F W0 P_pieces) :=
  have nd := sc_pieces.nd
  have hu := hu65 hr
  s_seq (s_par rfl nd (by rfl) (by rfl) (by decide) (by rfl) (by rfl) (c_lst (a0)) (c_lst (a1 (c_tup (a1 (w_v 0) (a1 (c_int) (a0)))) (a0))) (by rfl)) (s_seq (s_while PassesOwn.never (wt_cmp hu (w_v 2) (c_lst (a0))) (s_seq (s_asg (c_pop (w_v 2)) (g_tp rfl (gs_cons (g_nm nd (by rfl) (by first | exact Or.inl rfl | exact Or.inr rfl)) (gs_cons (g_nm nd (by rfl) (by first | exact Or.inl rfl | exact Or.inr rfl)) (gs_nil))))) (s_seq (s_drop (c_append (w_v 1) (c_tup (a1 (w_v 3) (a1 (w_v 4) (a0)))))) (s_one (s_if (wt_tru (c_call g.f_is_applied hr hG (by rfl) (a1 (w_v 3) (a0)))) (s_one (s_drop (c_extend (w_v 2) (c_lc rfl nd (ci_of (c_rev (w_ix hu (w_v 3) (c_int)))) (blkOk_by (own := [("arg", 5)]) (by rfl)) (by decide) (by rfl) (fun _ _ _ _ _ => t_nm nd (by rfl) (by first | exact Or.inl rfl | exact Or.inr rfl)) (fun _ _ _ _ _ => q_yes) (fun _ _ _ _ _ => c_tup (a1 (w_v 5) (a1 (w_bin (w_v 4) (c_int)) (a0)))))))) (s_nil)))))) (s_one (s_ret (w_v 1))))
theorem k_numbers_of {F : Fns} {n : Nat} (g : G P w K mg base F n) (f : Addr) (cdv : Value) (A : Around) (outer : List PySem.Env) (s : Shared) (H : Hp) (E : XK) (hr : Room n (A.deeper (envOfC "numbers_of" (defScope S_numbers_of) s.heap.objs.size f cdv))) (hG : A.guards = some []) :
    PSs (cxOf CX0 P w K mg base N_numbers_of "numbers_of" (defScope S_numbers_of) f cdv A outer s H E).nox (defBody S_numbers_of) (rdS K (fun _ => 0) F W0 P_numbers_of) :=
  have nd := sc_numbers_of.nd
  have hu := hu65 hr
  s_one (s_ret (w_sset g.b_sorted g.b_set (a1 (c_lc rfl nd (ci_of (c_call g.f_pieces hr hG (by rfl) (a1 (w_v 0) (a0)))) (blkOk_by (own := [("piece", 1), ("level", 2)]) (by rfl)) (by decide) (by rfl) (fun _ _ _ _ _ => t_tp rfl (t_cons (t_nm nd (by rfl) (by first | exact Or.inl rfl | exact Or.inr rfl)) (t_cons (t_nm nd (by rfl) (by first | exact Or.inl rfl | exact Or.inr rfl)) (t_nil)))) (fun _ _ _ _ _ => q_one (wt_tru (c_call g.f_is_integer hr hG (by rfl) (a1 (w_v 1) (a0))))) (fun _ _ _ _ _ => w_v 1)) (a0))))
theorem k_names_of {F : Fns} {n : Nat} (g : G P w K mg base F n) (f : Addr) (cdv : Value) (A : Around) (outer : List PySem.Env) (s : Shared) (H : Hp) (E : XK) (hr : Room n (A.deeper (envOfC "names_of" (defScope S_names_of) s.heap.objs.size f cdv))) (hG : A.guards = some []) :
    PSs (cxOf CX0 P w K mg base N_names_of "names_of" (defScope S_names_of) f cdv A outer s H E).nox (defBody S_names_of) (rdS K (fun _ => 0) F W0 P_names_of) :=
  have nd := sc_names_of.nd
  have hu := hu65 hr
  s_one (s_ret (w_sset g.b_sorted g.b_set (a1 (c_lc rfl nd (ci_of (c_call g.f_pieces hr hG (by rfl) (a1 (w_v 0) (a0)))) (blkOk_by (own := [("piece", 1), ("level", 2)]) (by rfl)) (by decide) (by rfl) (fun _ _ _ _ _ => t_tp rfl (t_cons (t_nm nd (by rfl) (by first | exact Or.inl rfl | exact Or.inr rfl)) (t_cons (t_nm nd (by rfl) (by first | exact Or.inl rfl | exact Or.inr rfl)) (t_nil)))) (fun _ _ _ _ _ => q_one ((cw_and (wt_tru (c_call g.f_is_applied hr hG (by rfl) (a1 (w_v 1) (a0)))) (cw_and1 (wt_tru (c_call g.f_is_name hr hG (by rfl) (a1 (w_ix hu (w_v 1) (c_int)) (a0)))))).pt)) (fun _ _ _ _ _ => w_ix hu (w_v 1) (c_int))) (a0))))
theorem k_is_term {F : Fns} {n : Nat} (g : G P w K mg base F n) (f : Addr) (cdv : Value) (A : Around) (outer : List PySem.Env) (s : Shared) (H : Hp) (E : XK) (hr : Room n (A.deeper (envOfC "is_term" (defScope S_is_term) s.heap.objs.size f cdv))) (hG : A.guards = some []) :
    PSs (cxOf CX0 P w K mg base N_is_term "is_term" (defScope S_is_term) f cdv A outer s H E).nox (defBody S_is_term) (rdS K (fun _ => 0) F W0 P_is_term) :=
  have nd := sc_is_term.nd
  have hu := hu65 hr
  s_seq (s_set nd (by rfl) (by first | exact Or.inl rfl | exact Or.inr rfl) (c_call g.f_standings hr hG (by rfl) (a1 (w_v 0) (a0)))) (s_one (s_ret (c_and (w_cmp hu (w_v 1) (c_non)) (c_and1 (c_call g.f_have_one_sort hr hG (by rfl) (a1 (w_v 1) (a0)))))))
theorem k_is_kind {F : Fns} {n : Nat} (g : G P w K mg base F n) (f : Addr) (cdv : Value) (A : Around) (outer : List PySem.Env) (s : Shared) (H : Hp) (E : XK) (hr : Room n (A.deeper (envOfC "is_kind" (defScope S_is_kind) s.heap.objs.size f cdv))) (hG : A.guards = some []) :
    PSs (cxOf CX0 P w K mg base N_is_kind "is_kind" (defScope S_is_kind) f cdv A outer s H E).nox (defBody S_is_kind) (rdS K (fun _ => 0) F W0 P_is_kind) :=
  have nd := sc_is_kind.nd
  have hu := hu65 hr
  s_one (s_ret (w_cmp hu (c_call g.f_standings hr hG (by rfl) (a1 (w_v 0) (a0))) (c_lst (a0))))
theorem k_is_pattern {F : Fns} {n : Nat} (g : G P w K mg base F n) (f : Addr) (cdv : Value) (A : Around) (outer : List PySem.Env) (s : Shared) (H : Hp) (E : XK) (hr : Room n (A.deeper (envOfC "is_pattern" (defScope S_is_pattern) s.heap.objs.size f cdv))) (hG : A.guards = some []) :
    PSs (cxOf CX0 P w K mg base N_is_pattern "is_pattern" (defScope S_is_pattern) f cdv A outer s H E).nox (defBody S_is_pattern) (rdS K (fun _ => 0) F W0 P_is_pattern) :=
  have nd := sc_is_pattern.nd
  have hu := hu65 hr
  s_seq (s_if (ct_not (wt_tru (c_call g.f_is_term hr hG (by rfl) (a1 (w_v 0) (a0))))) (s_one (s_ret (c_bl))) (s_nil)) (s_seq (s_set nd (by rfl) (by first | exact Or.inl rfl | exact Or.inr rfl) (w_fn (cr_all rfl) on_all boot_all g.b_all (a1 (c_lc rfl nd (ci_of (c_call g.f_numbers_of hr hG (by rfl) (a1 (w_v 0) (a0)))) (blkOk_by (own := [("number", 2)]) (by rfl)) (by decide) (by rfl) (fun _ _ _ _ _ => t_nm nd (by rfl) (by first | exact Or.inl rfl | exact Or.inr rfl)) (fun _ _ _ _ _ => q_yes) (fun _ _ _ _ _ => w_cmp hu (w_fn call_abs on_abs boot_abs g.b_abs (a1 (w_v 2) (a0))) (w_gi g.c_MOST_NUMBER))) (a0)))) (s_one (s_ret (c_and (w_v 1) (c_and1 (c_not (w_fn (cr_any rfl) on_any boot_any g.b_any (a1 (c_lc rfl nd (ci_of (c_call g.f_names_of hr hG (by rfl) (a1 (w_v 0) (a0)))) (blkOk_by (own := [("name", 3)]) (by rfl)) (by decide) (by rfl) (fun _ _ _ _ _ => t_nm nd (by rfl) (by first | exact Or.inl rfl | exact Or.inr rfl)) (fun _ _ _ _ _ => q_yes) (fun _ _ _ _ _ => w_cmp hu (c_sl (w_v 3) (co_none) (co_some (c_int))) (w_gs g.c_FRESH_NAME))) (a0)))))))))
theorem k__law_pot {F : Fns} {n : Nat} (g : G P w K mg base F n) (f : Addr) (cdv : Value) (A : Around) (outer : List PySem.Env) (s : Shared) (H : Hp) (E : XK) (hr : Room n (A.deeper (envOfC "_law_pot" (defScope S__law_pot) s.heap.objs.size f cdv))) (hG : A.guards = some []) :
    PSs (cxOf CX0 P w K mg base N__law_pot "_law_pot" (defScope S__law_pot) f cdv A outer s H E).nox (defBody S__law_pot) (rdS K (fun _ => 0) F W0 P__law_pot) :=
  have nd := sc__law_pot.nd
  have hu := hu65 hr
  s_seq (s_set nd (by rfl) (by first | exact Or.inl rfl | exact Or.inr rfl) (c_if (wt_cmp hu (w_v 1) (w_fn or_len on_len boot_len g.b_len (a1 (w_v 0) (a0)))) (w_fn call_abs on_abs boot_abs g.b_abs (a1 (w_ix hu (w_v 0) (w_v 1)) (a0))) (w_bin (w_bin (c_int) (w_v 1)) (c_int)))) (s_one (s_ret (c_lst (a1 (w_fn (or_max rfl) on_max boot_max g.b_max (a1 (c_int) (a1 (w_bin (w_v 2) (w_bin (c_int) (c_int))) (a0)))) (a1 (w_bin (w_bin (w_ty call_int1 on_int boot_int g.b_int (a1 (w_bin (w_bin (w_bin (w_bin (w_ty call_int1 on_int boot_int g.b_int (a1 (w_v 2) (a0))) (c_int)) (c_int)) (w_bin (c_int) (w_v 1))) (c_int)) (a0))) (c_int)) (c_int)) (a0))))))
theorem k__law_draw {F : Fns} {n : Nat} (g : G P w K mg base F n) (f : Addr) (cdv : Value) (A : Around) (outer : List PySem.Env) (s : Shared) (H : Hp) (E : XK) (hr : Room n (A.deeper (envOfC "_law_draw" (defScope S__law_draw) s.heap.objs.size f cdv))) (hG : A.guards = some []) :
    PSs (cxOf CX0 P w K mg base N__law_draw "_law_draw" (defScope S__law_draw) f cdv A outer s H E).nox (defBody S__law_draw) (rdS K (fun _ => 0) F W0 P__law_draw) :=
  have nd := sc__law_draw.nd
  have hu := hu65 hr
  s_seq (s_if (wt_cmp hu (w_ix hu (w_v 0) (c_int)) (c_int)) (s_seq (s_asg (w_fn call_divmod on_divmod boot_divmod g.b_divmod (a1 (w_ix hu (w_v 0) (c_int)) (a1 (w_v 1) (a0)))) (g_tp rfl (gs_cons (g_sb (lt1 hu) (w_v 0) (c_int)) (gs_cons (g_nm nd (by rfl) (by first | exact Or.inl rfl | exact Or.inr rfl)) (gs_nil))))) (s_one (s_ret (w_v 2)))) (s_nil)) (s_seq (s_asg (w_bin (w_ty call_int1 on_int boot_int g.b_int (a1 (w_bin (w_bin (w_ix hu (w_v 0) (c_int)) (c_int)) (c_int)) (a0))) (c_int)) (g_sb (lt1 hu) (w_v 0) (c_int))) (s_one (s_ret (w_bin (w_ty call_int1 on_int boot_int g.b_int (a1 (w_bin (w_bin (w_ty call_int1 on_int boot_int g.b_int (a1 (w_bin (w_ix hu (w_v 0) (c_int)) (w_ix hu (w_v 0) (c_int))) (a0))) (c_int)) (c_int)) (a0))) (w_v 1)))))
theorem k__law_pick {F : Fns} {n : Nat} (g : G P w K mg base F n) (f : Addr) (cdv : Value) (A : Around) (outer : List PySem.Env) (s : Shared) (H : Hp) (E : XK) (hr : Room n (A.deeper (envOfC "_law_pick" (defScope S__law_pick) s.heap.objs.size f cdv))) (hG : A.guards = some []) :
    PSs (cxOf CX0 P w K mg base N__law_pick "_law_pick" (defScope S__law_pick) f cdv A outer s H E).nox (defBody S__law_pick) (rdS K (fun _ => 0) F W0 P__law_pick) :=
  have nd := sc__law_pick.nd
  have hu := hu65 hr
  s_one (s_ret (w_ix hu (w_v 1) (c_call g.f__law_draw hr hG (by rfl) (a1 (w_v 0) (a1 (w_fn or_len on_len boot_len g.b_len (a1 (w_v 1) (a0))) (a0))))))
theorem k__law_are_in {F : Fns} {n : Nat} (g : G P w K mg base F n) (f : Addr) (cdv : Value) (A : Around) (outer : List PySem.Env) (s : Shared) (H : Hp) (E : XK) (hr : Room n (A.deeper (envOfC "_law_are_in" (defScope S__law_are_in) s.heap.objs.size f cdv))) (hG : A.guards = some []) :
    PSs (cxOf CX0 P w K mg base N__law_are_in "_law_are_in" (defScope S__law_are_in) f cdv A outer s H E).nox (defBody S__law_are_in) (rdS K (fun _ => 0) F W0 P__law_are_in) :=
  have nd := sc__law_are_in.nd
  have hu := hu65 hr
  s_one (s_ret (w_fn (cr_all rfl) on_all boot_all g.b_all (a1 (c_lc rfl nd (ci_of (w_v 0)) (blkOk_by (own := [("sign", 2)]) (by rfl)) (by decide) (by rfl) (fun _ _ _ _ _ => t_nm nd (by rfl) (by first | exact Or.inl rfl | exact Or.inr rfl)) (fun _ _ _ _ _ => q_yes) (fun _ _ _ _ _ => w_cmp hu (w_v 2) (w_v 1))) (a0))))
theorem k__law_is_name {F : Fns} {n : Nat} (g : G P w K mg base F n) (f : Addr) (cdv : Value) (A : Around) (outer : List PySem.Env) (s : Shared) (H : Hp) (E : XK) (hr : Room n (A.deeper (envOfC "_law_is_name" (defScope S__law_is_name) s.heap.objs.size f cdv))) (hG : A.guards = some []) :
    PSs (cxOf CX0 P w K mg base N__law_is_name "_law_is_name" (defScope S__law_is_name) f cdv A outer s H E).nox (defBody S__law_is_name) (rdS K (fun _ => 0) F W0 P__law_is_name) :=
  have nd := sc__law_is_name.nd
  have hu := hu65 hr
  s_seq (s_if ((cw_or (ct_not (wt_tru (w_isi .str g.b_isinstance (pe_bltn (by rfl) g.b_str boot_str rfl) (w_v 0)))) (cw_or1 (ct_not (wt_chain hu (c_int) (w_fn or_len on_len boot_len g.b_len (a1 (w_v 0) (a0))) (c_int))))).pt) (s_one (s_ret (c_bl))) (s_nil)) (s_seq (s_set nd (by rfl) (by first | exact Or.inl rfl | exact Or.inr rfl) (c_str)) (s_one (s_ret (c_and (w_cmp hu (w_ix hu (w_v 0) (c_int)) (w_v 1)) (c_and1 (c_call g.f__law_are_in hr hG (by rfl) (a1 (w_v 0) (a1 (w_bin (w_v 1) (c_str)) (a0)))))))))
theorem k__law_is_variable {F : Fns} {n : Nat} (g : G P w K mg base F n) (f : Addr) (cdv : Value) (A : Around) (outer : List PySem.Env) (s : Shared) (H : Hp) (E : XK) (hr : Room n (A.deeper (envOfC "_law_is_variable" (defScope S__law_is_variable) s.heap.objs.size f cdv))) (hG : A.guards = some []) :
    PSs (cxOf CX0 P w K mg base N__law_is_variable "_law_is_variable" (defScope S__law_is_variable) f cdv A outer s H E).nox (defBody S__law_is_variable) (rdS K (fun _ => 0) F W0 P__law_is_variable) :=
  have nd := sc__law_is_variable.nd
  have hu := hu65 hr
  s_seq (s_if ((cw_or (ct_not (wt_tru (w_isi .str g.b_isinstance (pe_bltn (by rfl) g.b_str boot_str rfl) (w_v 0)))) (cw_or1 (ct_not (wt_chain hu (c_int) (w_fn or_len on_len boot_len g.b_len (a1 (w_v 0) (a0))) (c_int))))).pt) (s_one (s_ret (c_bl))) (s_nil)) (s_one (s_ret (c_and (w_cmp hu (w_ix hu (w_v 0) (c_int)) (c_str)) (c_and1 (c_call g.f__law_are_in hr hG (by rfl) (a1 (c_sl (w_v 0) (co_some (c_int)) (co_none)) (a1 (c_str) (a0))))))))
theorem k__law_is_number {F : Fns} {n : Nat} (g : G P w K mg base F n) (f : Addr) (cdv : Value) (A : Around) (outer : List PySem.Env) (s : Shared) (H : Hp) (E : XK) (hr : Room n (A.deeper (envOfC "_law_is_number" (defScope S__law_is_number) s.heap.objs.size f cdv))) (hG : A.guards = some []) :
    PSs (cxOf CX0 P w K mg base N__law_is_number "_law_is_number" (defScope S__law_is_number) f cdv A outer s H E).nox (defBody S__law_is_number) (rdS K (fun _ => 0) F W0 P__law_is_number) :=
  have nd := sc__law_is_number.nd
  have hu := hu65 hr
  s_one (s_ret (c_and (w_isi .int g.b_isinstance (pe_bltn (by rfl) g.b_int boot_int rfl) (w_v 0)) (c_and (w_cmp hu (w_v 0) (c_bl)) (c_and1 (w_cmp hu (w_v 0) (c_bl))))))
theorem k__law_things {F : Fns} {n : Nat} (g : G P w K mg base F n) (f : Addr) (cdv : Value) (A : Around) (outer : List PySem.Env) (s : Shared) (H : Hp) (E : XK) (hr : Room n (A.deeper (envOfC "_law_things" (defScope S__law_things) s.heap.objs.size f cdv))) (hG : A.guards = some []) :
    PSs (cxOf CX0 P w K mg base N__law_things "_law_things" (defScope S__law_things) f cdv A outer s H E).nox (defBody S__law_things) (rdS K (fun _ => 0) F W0 P__law_things) :=
  have nd := sc__law_things.nd
  have hu := hu65 hr
  s_seq (s_if (wt_tru (c_call g.f__law_is_number hr hG (by rfl) (a1 (w_v 0) (a0)))) (s_one (s_ret (c_lst (a1 (c_tup (a1 (c_str) (a1 (w_v 0) (a0)))) (a0))))) (s_nil)) (s_seq (s_if (wt_tru (c_call g.f__law_is_variable hr hG (by rfl) (a1 (w_v 0) (a0)))) (s_one (s_ret (c_lst (a1 (c_tup (a1 (c_str) (a1 (w_v 0) (a0)))) (a0))))) (s_nil)) (s_seq (s_if ((cw_or (ct_not (wt_tru (w_isi .tuple g.b_isinstance (pe_bltn (by rfl) g.b_tuple boot_tuple rfl) (w_v 0)))) (cw_or (wt_cmp hu (w_fn or_len on_len boot_len g.b_len (a1 (w_v 0) (a0))) (c_int)) (cw_or1 (ct_not (wt_tru (w_isi .tuple g.b_isinstance (pe_bltn (by rfl) g.b_tuple boot_tuple rfl) (w_ix hu (w_v 0) (c_int)))))))).pt) (s_one (s_ret (c_non))) (s_nil)) (s_seq (s_asg (w_v 0) (g_tp rfl (gs_cons (g_nm nd (by rfl) (by first | exact Or.inl rfl | exact Or.inr rfl)) (gs_cons (g_nm nd (by rfl) (by first | exact Or.inl rfl | exact Or.inr rfl)) (gs_nil))))) (s_seq (s_if ((cw_and (ct_not (wt_tru (c_call g.f__law_is_name hr hG (by rfl) (a1 (w_v 1) (a0))))) (cw_and1 (ct_not (wt_tru (c_call g.f__law_is_variable hr hG (by rfl) (a1 (w_v 1) (a0))))))).pt) (s_one (s_ret (c_non))) (s_nil)) (s_seq (s_set nd (by rfl) (by first | exact Or.inl rfl | exact Or.inr rfl) (c_lst (a1 (c_tup (a1 (c_if (wt_tru (c_call g.f__law_is_name hr hG (by rfl) (a1 (w_v 1) (a0)))) (c_str) (c_str)) (a1 (w_v 1) (a0)))) (a0)))) (s_seq (s_for PassesOwn.never rfl (ci_enum (by rfl) g.b_enumerate (w_v 2)) (g_tp rfl (gs_cons (g_nm nd (by rfl) (by first | exact Or.inl rfl | exact Or.inr rfl)) (gs_cons (g_nm nd (by rfl) (by first | exact Or.inl rfl | exact Or.inr rfl)) (gs_nil)))) (s_seq (s_if ((cw_and (wt_tru (w_isi .str g.b_isinstance (pe_bltn (by rfl) g.b_str boot_str rfl) (w_v 5))) (cw_and1 (wt_cmp hu (c_sl (w_v 5) (co_none) (co_some (c_int))) (c_str)))).pt) (s_one (s_set nd (by rfl) (by first | exact Or.inl rfl | exact Or.inr rfl) (c_if ((cw_and (wt_tru (c_call g.f__law_is_variable hr hG (by rfl) (a1 (c_sl (w_v 5) (co_some (c_int)) (co_none)) (a0)))) (cw_and1 (wt_cmp hu (w_v 4) (w_bin (w_fn or_len on_len boot_len g.b_len (a1 (w_v 2) (a0))) (c_int))))).pt) (c_lst (a1 (c_tup (a1 (c_str) (a1 (c_sl (w_v 5) (co_some (c_int)) (co_none)) (a0)))) (a0))) (c_non)))) (s_one (s_set nd (by rfl) (by first | exact Or.inl rfl | exact Or.inr rfl) (c_call g.f__law_things hr hG (by rfl) (a1 (w_v 5) (a0)))))) (s_seq (s_if (wt_cmp hu (w_v 6) (c_non)) (s_one (s_ret (c_non))) (s_nil)) (s_one (s_set nd (by rfl) (by first | exact Or.inl rfl | exact Or.inr rfl) (w_bin (w_v 3) (w_v 6))))))) (s_one (s_ret (w_v 3)))))))))
theorem k__law_is_term {F : Fns} {n : Nat} (g : G P w K mg base F n) (f : Addr) (cdv : Value) (A : Around) (outer : List PySem.Env) (s : Shared) (H : Hp) (E : XK) (hr : Room n (A.deeper (envOfC "_law_is_term" (defScope S__law_is_term) s.heap.objs.size f cdv))) (hG : A.guards = some []) :
    PSs (cxOf CX0 P w K mg base N__law_is_term "_law_is_term" (defScope S__law_is_term) f cdv A outer s H E).nox (defBody S__law_is_term) (rdS K (fun _ => 0) F W0 P__law_is_term) :=
  have nd := sc__law_is_term.nd
  have hu := hu65 hr
  s_seq (s_if (wt_cmp hu (w_v 0) (c_non)) (s_one (s_ret (c_bl))) (s_nil)) (s_seq (s_set nd (by rfl) (by first | exact Or.inl rfl | exact Or.inr rfl) (c_dict0)) (s_seq (s_for PassesOwn.never rfl (ci_of (w_v 0)) (g_tp rfl (gs_cons (g_nm nd (by rfl) (by first | exact Or.inl rfl | exact Or.inr rfl)) (gs_cons (g_nm nd (by rfl) (by first | exact Or.inl rfl | exact Or.inr rfl)) (gs_nil)))) (s_one (s_if (wt_cmp hu (w_v 2) (c_lst (a1 (c_str) (a1 (c_str) (a1 (c_str) (a0)))))) (s_seq (s_if (wt_cmp hu (c_get2 (lt1 hu) (w_v 1) (w_v 3) (w_v 2) ⟨by rfl, by rfl, by rfl, by rfl⟩) (w_v 2)) (s_one (s_ret (c_bl))) (s_nil)) (s_one (s_asg (w_v 2) (g_sb (lt1 hu) (w_v 1) (w_v 3))))) (s_nil)))) (s_one (s_ret (c_bl)))))
theorem k__law_due {F : Fns} {n : Nat} (g : G P w K mg base F n) (f : Addr) (cdv : Value) (A : Around) (outer : List PySem.Env) (s : Shared) (H : Hp) (E : XK) (hr : Room n (A.deeper (envOfC "_law_due" (defScope S__law_due) s.heap.objs.size f cdv))) (hG : A.guards = some []) :
    PSs (cxOf CX0 P w K mg base N__law_due "_law_due" (defScope S__law_due) f cdv A outer s H E).nox (defBody S__law_due) (rdS K (fun _ => 0) F W0 P__law_due) :=
  have nd := sc__law_due.nd
  have hu := hu65 hr
  s_seq (s_set nd (by rfl) (by first | exact Or.inl rfl | exact Or.inr rfl) (c_call g.f__law_things hr hG (by rfl) (a1 (w_v 0) (a0)))) (s_seq (s_if (ct_not (wt_tru (c_call g.f__law_is_term hr hG (by rfl) (a1 (w_v 1) (a0))))) (s_one (s_ret (c_lst (a1 (c_bl) (a1 (c_bl) (a1 (c_bl) (a0))))))) (s_nil)) (s_seq (s_set nd (by rfl) (by first | exact Or.inl rfl | exact Or.inr rfl) (w_cmp hu (c_lc rfl nd (ci_of (w_v 1)) (blkOk_by (own := [("sort", 6), ("thing", 7)]) (by rfl)) (by decide) (by rfl) (fun _ _ _ _ _ => t_tp rfl (t_cons (t_nm nd (by rfl) (by first | exact Or.inl rfl | exact Or.inr rfl)) (t_cons (t_nm nd (by rfl) (by first | exact Or.inl rfl | exact Or.inr rfl)) (t_nil)))) (fun _ _ _ _ _ => q_one (wt_cmp hu (w_v 6) (c_lst (a1 (c_str) (a1 (c_str) (a1 (c_str) (a0))))))) (fun _ _ _ _ _ => c_int)) (c_lst (a0)))) (s_seq (s_lc rfl nd (by rfl) (by rfl) (sw_true (by rfl) (by rfl) (by rfl) (by rfl)) (ci_of (w_v 1)) (blkOk_by (own := [("sort", 6), ("thing", 7)]) (by rfl)) (by decide) (by rfl) (fun _ _ _ _ _ => t_tp rfl (t_cons (t_nm nd (by rfl) (by first | exact Or.inl rfl | exact Or.inr rfl)) (t_cons (t_nm nd (by rfl) (by first | exact Or.inl rfl | exact Or.inr rfl)) (t_nil)))) (fun _ _ _ _ _ => q_one (wt_cmp hu (w_v 6) (c_str))) (fun _ _ _ _ _ => w_v 7)) (s_seq (s_lc rfl nd (by rfl) (by rfl) (sw_true (by rfl) (by rfl) (by rfl) (by rfl)) (ci_of (w_v 1)) (blkOk_by (own := [("sort", 6), ("thing", 7)]) (by rfl)) (by decide) (by rfl) (fun _ _ _ _ _ => t_tp rfl (t_cons (t_nm nd (by rfl) (by first | exact Or.inl rfl | exact Or.inr rfl)) (t_cons (t_nm nd (by rfl) (by first | exact Or.inl rfl | exact Or.inr rfl)) (t_nil)))) (fun _ _ _ _ _ => q_one (wt_cmp hu (w_v 6) (c_str))) (fun _ _ _ _ _ => w_v 7)) (s_seq (s_set nd (by rfl) (by first | exact Or.inl rfl | exact Or.inr rfl) (w_fn (cr_all rfl) on_all boot_all g.b_all (a1 (c_lc rfl nd (ci_of (w_v 3)) (blkOk_by (own := [("number", 8)]) (by rfl)) (by decide) (by rfl) (fun _ _ _ _ _ => t_nm nd (by rfl) (by first | exact Or.inl rfl | exact Or.inr rfl)) (fun _ _ _ _ _ => q_yes) (fun _ _ _ _ _ => w_chain hu (c_neg (c_int)) (w_v 8) (c_int))) (a0)))) (s_one (s_ret (c_lst (a1 (c_bl) (a1 (w_v 2) (a1 (c_and (w_v 5) (c_and1 (w_fn (cr_all rfl) on_all boot_all g.b_all (a1 (c_lc rfl nd (ci_of (w_v 4)) (blkOk_by (own := [("name", 9)]) (by rfl)) (by decide) (by rfl) (fun _ _ _ _ _ => t_nm nd (by rfl) (by first | exact Or.inl rfl | exact Or.inr rfl)) (fun _ _ _ _ _ => q_yes) (fun _ _ _ _ _ => w_cmp hu (c_sl (w_v 9) (co_none) (co_some (c_int))) (c_str))) (a0))))) (a0))))))))))))
theorem k__law_leaf {F : Fns} {n : Nat} (g : G P w K mg base F n) (f : Addr) (cdv : Value) (A : Around) (outer : List PySem.Env) (s : Shared) (H : Hp) (E : XK) (hr : Room n (A.deeper (envOfC "_law_leaf" (defScope S__law_leaf) s.heap.objs.size f cdv))) (hG : A.guards = some []) :
    PSs (cxOf CX0 P w K mg base N__law_leaf "_law_leaf" (defScope S__law_leaf) f cdv A outer s H E).nox (defBody S__law_leaf) (rdS K (fun _ => 0) F W0 P__law_leaf) :=
  have nd := sc__law_leaf.nd
  have hu := hu65 hr
  s_seq (s_set nd (by rfl) (by first | exact Or.inl rfl | exact Or.inr rfl) (c_call g.f__law_draw hr hG (by rfl) (a1 (w_v 0) (a1 (c_int) (a0))))) (s_seq (s_if (wt_cmp hu (w_v 1) (c_int)) (s_one (s_ret (c_call g.f__law_pick hr hG (by rfl) (a1 (w_v 0) (a1 (c_lst (a1 (c_str) (a1 (c_str) (a1 (c_str) (a1 (c_str) (a1 (c_str) (a1 (c_str) (a1 (c_str) (a0))))))))) (a0)))))) (s_nil)) (s_seq (s_if (wt_cmp hu (w_v 1) (c_int)) (s_one (s_ret (c_call g.f__law_pick hr hG (by rfl) (a1 (w_v 0) (a1 (c_lst (a1 (c_int) (a1 (c_int) (a1 (c_neg (c_int)) (a1 (c_int) (a1 (c_neg (c_int)) (a1 (c_int) (a1 (c_neg (c_int)) (a1 (w_bin (c_int) (c_int)) (a1 (c_int) (a0))))))))))) (a0)))))) (s_nil)) (s_seq (s_if (wt_cmp hu (w_v 1) (c_int)) (s_one (s_ret (c_tup (a1 (c_call g.f__law_pick hr hG (by rfl) (a1 (w_v 0) (a1 (c_lst (a1 (c_str) (a1 (c_str) (a1 (c_str) (a1 (c_str) (a1 (c_str) (a1 (c_str) (a1 (c_str) (a1 (c_str) (a0)))))))))) (a0)))) (a1 (c_tup (a0)) (a0)))))) (s_nil)) (s_seq (s_if (wt_cmp hu (w_v 1) (c_int)) (s_one (s_ret (c_call g.f__law_pick hr hG (by rfl) (a1 (w_v 0) (a1 (c_lst (a1 (c_non) (a1 (c_bl) (a1 (c_bl) (a1 (c_str) (a1 (c_str) (a1 (c_str) (a1 (c_str) (a1 (c_str) (a1 (c_str) (a1 (c_str) (a1 (c_str) (a0))))))))))))) (a0)))))) (s_nil)) (s_one (s_ret (c_call g.f__law_pick hr hG (by rfl) (a1 (w_v 0) (a1 (c_lst (a1 (c_lst (a0)) (a1 (c_tup (a0)) (a1 (c_dict0) (a1 (c_tup (a1 (c_str) (a0))) (a1 (c_tup (a1 (c_str) (a1 (c_lst (a0)) (a0)))) (a1 (c_lst (a1 (c_str) (a1 (c_tup (a0)) (a0)))) (a1 (c_tup (a1 (c_str) (a1 (c_tup (a0)) (a0)))) (a1 (c_tup (a1 (c_str) (a1 (c_tup (a0)) (a0)))) (a1 (c_tup (a1 (c_str) (a1 (c_tup (a0)) (a0)))) (a1 (c_tup (a1 (c_str) (a1 (c_tup (a0)) (a1 (c_tup (a0)) (a0))))) (a1 (c_tup (a1 (c_int) (a1 (c_tup (a0)) (a0)))) (a1 (c_tup (a1 (c_str) (a1 (c_non) (a0)))) (a1 (c_tup (a1 (c_str) (a1 (c_tup (a0)) (a0)))) (a0))))))))))))))) (a0))))))))))
theorem k__law_value {F : Fns} {n : Nat} (g : G P w K mg base F n) (f : Addr) (cdv : Value) (A : Around) (outer : List PySem.Env) (s : Shared) (H : Hp) (E : XK) (hr : Room n (A.deeper (envOfC "_law_value" (defScope S__law_value) s.heap.objs.size f cdv))) (hG : A.guards = some []) :
    PSs (cxOf CX0 P w K mg base N__law_value "_law_value" (defScope S__law_value) f cdv A outer s H E).nox (defBody S__law_value) (rdS K (fun _ => 0) F W0 P__law_value) :=
  have nd := sc__law_value.nd
  have hu := hu65 hr
  s_seq (s_if ((cw_or (wt_cmp hu (w_v 1) (c_int)) (cw_or1 (wt_cmp hu (c_call g.f__law_draw hr hG (by rfl) (a1 (w_v 0) (a1 (c_int) (a0)))) (c_int)))).pt) (s_seq (s_set nd (by rfl) (by first | exact Or.inl rfl | exact Or.inr rfl) (c_call g.f__law_leaf hr hG (by rfl) (a1 (w_v 0) (a0)))) (s_one (s_ret (c_if ((cw_or (wt_tru (w_v 2)) (cw_or1 (wt_tru (c_call g.f__law_is_term hr hG (by rfl) (a1 (c_call g.f__law_things hr hG (by rfl) (a1 (w_v 3) (a0))) (a0)))))).pt) (w_v 3) (c_str))))) (s_nil)) (s_seq (s_set nd (by rfl) (by first | exact Or.inl rfl | exact Or.inr rfl) (c_lst (a1 (c_str) (a1 (c_str) (a1 (c_str) (a1 (c_str) (a1 (c_str) (a1 (c_str) (a1 (c_str) (a0)))))))))) (s_seq (s_set nd (by rfl) (by first | exact Or.inl rfl | exact Or.inr rfl) (c_call g.f__law_pick hr hG (by rfl) (a1 (w_v 0) (a1 (c_if (wt_tru (w_v 2)) (w_bin (w_v 4) (c_lst (a1 (c_str) (a1 (c_str) (a1 (c_non) (a1 (c_int) (a0))))))) (w_v 4)) (a0))))) (s_seq (s_lc rfl nd (by rfl) (by rfl) (sw_true (by rfl) (by rfl) (by rfl) (by rfl)) (w_r1 g.b_range (c_call g.f__law_draw hr hG (by rfl) (a1 (w_v 0) (a1 (c_int) (a0))))) (blkOk_by (own := [("turn", 7)]) (by rfl)) (by decide) (by rfl) (fun _ _ _ _ _ => t_nm nd (by rfl) (by first | exact Or.inl rfl | exact Or.inr rfl)) (fun _ _ _ _ _ => q_yes) (fun _ _ _ _ _ => c_call g.f__law_value hr hG (by rfl) (a1 (w_v 0) (a1 (w_bin (w_v 1) (c_int)) (a1 (w_v 2) (a0)))))) (s_seq (s_if (wt_cmp hu (c_call g.f__law_draw hr hG (by rfl) (a1 (w_v 0) (a1 (c_int) (a0)))) (c_int)) (s_one (s_drop (c_append (w_v 6) (c_call g.f__law_pick hr hG (by rfl) (a1 (w_v 0) (a1 (c_lst (a1 (c_str) (a1 (c_str) (a1 (c_str) (a1 (c_str) (a0)))))) (a0))))))) (s_nil)) (s_seq (s_if ((cw_and (wt_tru (w_v 2)) (cw_and1 (wt_cmp hu (c_call g.f__law_draw hr hG (by rfl) (a1 (w_v 0) (a1 (c_int) (a0)))) (c_int)))).pt) (s_one (s_set nd (by rfl) (by first | exact Or.inl rfl | exact Or.inr rfl) (w_bin (c_lst (a1 (c_str) (a0))) (w_v 6)))) (s_nil)) (s_one (s_ret (c_if ((cw_and (wt_tru (w_v 2)) (cw_and1 (wt_cmp hu (c_call g.f__law_draw hr hG (by rfl) (a1 (w_v 0) (a1 (c_int) (a0)))) (c_int)))).pt) (c_tup (a1 (w_v 5) (a1 (w_v 6) (a0)))) (c_tup (a1 (w_v 5) (a1 (w_ty call_tuple_of on_tuple boot_tuple g.b_tuple (a1 (w_v 6) (a0))) (a0))))))))))))
theorem k__law_chain {F : Fns} {n : Nat} (g : G P w K mg base F n) (f : Addr) (cdv : Value) (A : Around) (outer : List PySem.Env) (s : Shared) (H : Hp) (E : XK) (hr : Room n (A.deeper (envOfC "_law_chain" (defScope S__law_chain) s.heap.objs.size f cdv))) (hG : A.guards = some []) :
    PSs (cxOf CX0 P w K mg base N__law_chain "_law_chain" (defScope S__law_chain) f cdv A outer s H E).nox (defBody S__law_chain) (rdS K (fun _ => 0) F W0 P__law_chain) :=
  have nd := sc__law_chain.nd
  have hu := hu65 hr
  s_seq (s_set nd (by rfl) (by first | exact Or.inl rfl | exact Or.inr rfl) (c_call g.f__law_value hr hG (by rfl) (a1 (w_v 0) (a1 (c_int) (a1 (w_v 1) (a0)))))) (s_seq (s_for PassesOwn.never rfl (w_r1 g.b_range (w_bin (c_int) (c_call g.f__law_draw hr hG (by rfl) (a1 (w_v 0) (a1 (c_int) (a0)))))) (g_nm nd (by rfl) (by first | exact Or.inl rfl | exact Or.inr rfl)) (s_seq (s_lc rfl nd (by rfl) (by rfl) (sw_true (by rfl) (by rfl) (by rfl) (by rfl)) (w_r1 g.b_range (c_call g.f__law_draw hr hG (by rfl) (a1 (w_v 0) (a1 (c_int) (a0))))) (blkOk_by (own := [("late", 5)]) (by rfl)) (by decide) (by rfl) (fun _ _ _ _ _ => t_nm nd (by rfl) (by first | exact Or.inl rfl | exact Or.inr rfl)) (fun _ _ _ _ _ => q_yes) (fun _ _ _ _ _ => c_call g.f__law_value hr hG (by rfl) (a1 (w_v 0) (a1 (c_int) (a1 (c_bl) (a0)))))) (s_seq (s_drop (c_insert (w_v 4) (c_call g.f__law_draw hr hG (by rfl) (a1 (w_v 0) (a1 (w_bin (w_fn or_len on_len boot_len g.b_len (a1 (w_v 4) (a0))) (c_int)) (a0)))) (w_v 2))) (s_one (s_set nd (by rfl) (by first | exact Or.inl rfl | exact Or.inr rfl) (c_tup (a1 (c_call g.f__law_pick hr hG (by rfl) (a1 (w_v 0) (a1 (c_lst (a1 (c_str) (a1 (c_str) (a1 (c_str) (a1 (c_str) (a1 (c_str) (a0))))))) (a0)))) (a1 (w_ty call_tuple_of on_tuple boot_tuple g.b_tuple (a1 (w_v 4) (a0))) (a0))))))))) (s_one (s_ret (w_v 2))))
theorem k_law {F : Fns} {n : Nat} (g : G P w K mg base F n) (f : Addr) (cdv : Value) (A : Around) (outer : List PySem.Env) (s : Shared) (H : Hp) (E : XK) (hr : Room n (A.deeper (envOfC "law" (defScope S_law) s.heap.objs.size f cdv))) (hG : A.guards = some []) :
    PSs (cxOf CX0 P w K mg base N_law "law" (defScope S_law) f cdv A outer s H E).nox (defBody S_law) (rdS K (fun _ => 0) F W0 P_law) :=
  have nd := sc_law.nd
  have hu := hu65 hr
  s_seq (s_set nd (by rfl) (by first | exact Or.inl rfl | exact Or.inr rfl) (c_call g.f__law_pot hr hG (by rfl) (a1 (w_v 0) (a1 (c_int) (a0))))) (s_seq (s_for PassesOwn.never rfl (w_r1 g.b_range (c_int)) (g_nm nd (by rfl) (by first | exact Or.inl rfl | exact Or.inr rfl)) (s_seq (s_set nd (by rfl) (by first | exact Or.inl rfl | exact Or.inr rfl) (w_cmp hu (c_call g.f__law_draw hr hG (by rfl) (a1 (w_v 1) (a1 (c_int) (a0)))) (c_int))) (s_seq (s_set nd (by rfl) (by first | exact Or.inl rfl | exact Or.inr rfl) (c_if (wt_cmp hu (c_call g.f__law_draw hr hG (by rfl) (a1 (w_v 1) (a1 (c_int) (a0)))) (c_int)) (c_call g.f__law_chain hr hG (by rfl) (a1 (w_v 1) (a1 (w_v 3) (a0)))) (c_call g.f__law_value hr hG (by rfl) (a1 (w_v 1) (a1 (w_bin (c_int) (c_call g.f__law_draw hr hG (by rfl) (a1 (w_v 1) (a1 (c_int) (a0))))) (a1 (w_v 3) (a0))))))) (s_seq (s_set nd (by rfl) (by first | exact Or.inl rfl | exact Or.inr rfl) (c_lst (a1 (c_call g.f_is_term hr hG (by rfl) (a1 (w_v 4) (a0))) (a1 (c_call g.f_is_kind hr hG (by rfl) (a1 (w_v 4) (a0))) (a1 (c_call g.f_is_pattern hr hG (by rfl) (a1 (w_v 4) (a0))) (a0)))))) (s_seq (s_if (wt_cmp hu (w_fn (call_reprD hG (hu152 hr)) on_repr boot_repr g.b_repr (a1 (w_v 5) (a0))) (w_fn (call_reprD hG (hu152 hr)) on_repr boot_repr g.b_repr (a1 (c_call g.f__law_due hr hG (by rfl) (a1 (w_v 4) (a0))) (a0)))) (s_one (s_ret (c_bl))) (s_nil)) (s_one (s_if (wt_cmp hu (c_lst (a1 (c_callKz g.f_is_term 1 [0] hr hG (by rfl) (fun _ _ F => Fun.kbinds (ps := ["value"]) (ks := ["value"]) F 0 1 [0] rfl fun _ _ _ _ _ _ us ws h1 h2 => match us, ws, h1, h2 with | [], [b0], _, _ => rfl) (ck_cons (w_v 4) (ck_nil))) (a1 (c_callKz g.f_is_kind 1 [0] hr hG (by rfl) (fun _ _ F => Fun.kbinds (ps := ["value"]) (ks := ["value"]) F 0 1 [0] rfl fun _ _ _ _ _ _ us ws h1 h2 => match us, ws, h1, h2 with | [], [b0], _, _ => rfl) (ck_cons (w_v 4) (ck_nil))) (a1 (c_callKz g.f_is_pattern 1 [0] hr hG (by rfl) (fun _ _ F => Fun.kbinds (ps := ["value"]) (ks := ["value"]) F 0 1 [0] rfl fun _ _ _ _ _ _ us ws h1 h2 => match us, ws, h1, h2 with | [], [b0], _, _ => rfl) (ck_cons (w_v 4) (ck_nil))) (a0))))) (w_v 5)) (s_one (s_ret (c_bl))) (s_nil)))))))) (s_one (s_ret (c_bl))))
theorem g_all (gc : GC mg)
    (h_is_integer : ∃ (f : Addr) (fd : FuncData), Fun K "is_integer" "is_integer" S_is_integer f fd ∧ mg "is_integer" = some (.ref f) ∧ Binds K fd ["value"] [])
    (h_is_name : ∃ (f : Addr) (fd : FuncData), Fun K "is_name" "is_name" S_is_name f fd ∧ mg "is_name" = some (.ref f) ∧ Binds K fd ["value"] [])
    (h_is_variable : ∃ (f : Addr) (fd : FuncData), Fun K "is_variable" "is_variable" S_is_variable f fd ∧ mg "is_variable" = some (.ref f) ∧ Binds K fd ["value"] [])
    (h_is_head : ∃ (f : Addr) (fd : FuncData), Fun K "is_head" "is_head" S_is_head f fd ∧ mg "is_head" = some (.ref f) ∧ Binds K fd ["value"] [])
    (h_is_rest : ∃ (f : Addr) (fd : FuncData), Fun K "is_rest" "is_rest" S_is_rest f fd ∧ mg "is_rest" = some (.ref f) ∧ Binds K fd ["value"] [])
    (h_is_applied : ∃ (f : Addr) (fd : FuncData), Fun K "is_applied" "is_applied" S_is_applied f fd ∧ mg "is_applied" = some (.ref f) ∧ Binds K fd ["value"] [])
    (h_standings : ∃ (f : Addr) (fd : FuncData), Fun K "standings" "standings" S_standings f fd ∧ mg "standings" = some (.ref f) ∧ Binds K fd ["value"] [])
    (h_have_one_sort : ∃ (f : Addr) (fd : FuncData), Fun K "have_one_sort" "have_one_sort" S_have_one_sort f fd ∧ mg "have_one_sort" = some (.ref f) ∧ Binds K fd ["found"] [])
    (h_pieces : ∃ (f : Addr) (fd : FuncData), Fun K "pieces" "pieces" S_pieces f fd ∧ mg "pieces" = some (.ref f) ∧ Binds K fd ["term"] [])
    (h_numbers_of : ∃ (f : Addr) (fd : FuncData), Fun K "numbers_of" "numbers_of" S_numbers_of f fd ∧ mg "numbers_of" = some (.ref f) ∧ Binds K fd ["term"] [])
    (h_names_of : ∃ (f : Addr) (fd : FuncData), Fun K "names_of" "names_of" S_names_of f fd ∧ mg "names_of" = some (.ref f) ∧ Binds K fd ["term"] [])
    (h_is_term : ∃ (f : Addr) (fd : FuncData), Fun K "is_term" "is_term" S_is_term f fd ∧ mg "is_term" = some (.ref f) ∧ Binds K fd ["value"] [])
    (h_is_kind : ∃ (f : Addr) (fd : FuncData), Fun K "is_kind" "is_kind" S_is_kind f fd ∧ mg "is_kind" = some (.ref f) ∧ Binds K fd ["value"] [])
    (h_is_pattern : ∃ (f : Addr) (fd : FuncData), Fun K "is_pattern" "is_pattern" S_is_pattern f fd ∧ mg "is_pattern" = some (.ref f) ∧ Binds K fd ["value"] [])
    (h__law_pot : ∃ (f : Addr) (fd : FuncData), Fun K "_law_pot" "_law_pot" S__law_pot f fd ∧ mg "_law_pot" = some (.ref f) ∧ Binds K fd ["script", "k"] [])
    (h__law_draw : ∃ (f : Addr) (fd : FuncData), Fun K "_law_draw" "_law_draw" S__law_draw f fd ∧ mg "_law_draw" = some (.ref f) ∧ Binds K fd ["pot", "many"] [])
    (h__law_pick : ∃ (f : Addr) (fd : FuncData), Fun K "_law_pick" "_law_pick" S__law_pick f fd ∧ mg "_law_pick" = some (.ref f) ∧ Binds K fd ["pot", "some"] [])
    (h__law_are_in : ∃ (f : Addr) (fd : FuncData), Fun K "_law_are_in" "_law_are_in" S__law_are_in f fd ∧ mg "_law_are_in" = some (.ref f) ∧ Binds K fd ["signs", "some"] [])
    (h__law_is_name : ∃ (f : Addr) (fd : FuncData), Fun K "_law_is_name" "_law_is_name" S__law_is_name f fd ∧ mg "_law_is_name" = some (.ref f) ∧ Binds K fd ["value"] [])
    (h__law_is_variable : ∃ (f : Addr) (fd : FuncData), Fun K "_law_is_variable" "_law_is_variable" S__law_is_variable f fd ∧ mg "_law_is_variable" = some (.ref f) ∧ Binds K fd ["value"] [])
    (h__law_is_number : ∃ (f : Addr) (fd : FuncData), Fun K "_law_is_number" "_law_is_number" S__law_is_number f fd ∧ mg "_law_is_number" = some (.ref f) ∧ Binds K fd ["value"] [])
    (h__law_things : ∃ (f : Addr) (fd : FuncData), Fun K "_law_things" "_law_things" S__law_things f fd ∧ mg "_law_things" = some (.ref f) ∧ Binds K fd ["value"] [])
    (h__law_is_term : ∃ (f : Addr) (fd : FuncData), Fun K "_law_is_term" "_law_is_term" S__law_is_term f fd ∧ mg "_law_is_term" = some (.ref f) ∧ Binds K fd ["things"] [])
    (h__law_due : ∃ (f : Addr) (fd : FuncData), Fun K "_law_due" "_law_due" S__law_due f fd ∧ mg "_law_due" = some (.ref f) ∧ Binds K fd ["value"] [])
    (h__law_leaf : ∃ (f : Addr) (fd : FuncData), Fun K "_law_leaf" "_law_leaf" S__law_leaf f fd ∧ mg "_law_leaf" = some (.ref f) ∧ Binds K fd ["pot"] [])
    (h__law_value : ∃ (f : Addr) (fd : FuncData), Fun K "_law_value" "_law_value" S__law_value f fd ∧ mg "_law_value" = some (.ref f) ∧ Binds K fd ["pot", "deep", "is_odd"] [])
    (h__law_chain : ∃ (f : Addr) (fd : FuncData), Fun K "_law_chain" "_law_chain" S__law_chain f fd ∧ mg "_law_chain" = some (.ref f) ∧ Binds K fd ["pot", "is_odd"] [])
    (h_law : ∃ (f : Addr) (fd : FuncData), Fun K "law" "law" S_law f fd ∧ mg "law" = some (.ref f) ∧ Binds K fd ["script"] [])
    : ∀ n : Nat, G P w K mg base (run T n) n
  | 0 => { toGC := gc
           f_is_integer := let ⟨f, fd, F, m, b⟩ := h_is_integer; ⟨f, fd, F, m, b, fn_zero⟩
           f_is_name := let ⟨f, fd, F, m, b⟩ := h_is_name; ⟨f, fd, F, m, b, fn_zero⟩
           f_is_variable := let ⟨f, fd, F, m, b⟩ := h_is_variable; ⟨f, fd, F, m, b, fn_zero⟩
           f_is_head := let ⟨f, fd, F, m, b⟩ := h_is_head; ⟨f, fd, F, m, b, fn_zero⟩
           f_is_rest := let ⟨f, fd, F, m, b⟩ := h_is_rest; ⟨f, fd, F, m, b, fn_zero⟩
           f_is_applied := let ⟨f, fd, F, m, b⟩ := h_is_applied; ⟨f, fd, F, m, b, fn_zero⟩
           f_standings := let ⟨f, fd, F, m, b⟩ := h_standings; ⟨f, fd, F, m, b, fn_zero⟩
           f_have_one_sort := let ⟨f, fd, F, m, b⟩ := h_have_one_sort; ⟨f, fd, F, m, b, fn_zero⟩
           f_pieces := let ⟨f, fd, F, m, b⟩ := h_pieces; ⟨f, fd, F, m, b, fn_zero⟩
           f_numbers_of := let ⟨f, fd, F, m, b⟩ := h_numbers_of; ⟨f, fd, F, m, b, fn_zero⟩
           f_names_of := let ⟨f, fd, F, m, b⟩ := h_names_of; ⟨f, fd, F, m, b, fn_zero⟩
           f_is_term := let ⟨f, fd, F, m, b⟩ := h_is_term; ⟨f, fd, F, m, b, fn_zero⟩
           f_is_kind := let ⟨f, fd, F, m, b⟩ := h_is_kind; ⟨f, fd, F, m, b, fn_zero⟩
           f_is_pattern := let ⟨f, fd, F, m, b⟩ := h_is_pattern; ⟨f, fd, F, m, b, fn_zero⟩
           f__law_pot := let ⟨f, fd, F, m, b⟩ := h__law_pot; ⟨f, fd, F, m, b, fn_zero⟩
           f__law_draw := let ⟨f, fd, F, m, b⟩ := h__law_draw; ⟨f, fd, F, m, b, fn_zero⟩
           f__law_pick := let ⟨f, fd, F, m, b⟩ := h__law_pick; ⟨f, fd, F, m, b, fn_zero⟩
           f__law_are_in := let ⟨f, fd, F, m, b⟩ := h__law_are_in; ⟨f, fd, F, m, b, fn_zero⟩
           f__law_is_name := let ⟨f, fd, F, m, b⟩ := h__law_is_name; ⟨f, fd, F, m, b, fn_zero⟩
           f__law_is_variable := let ⟨f, fd, F, m, b⟩ := h__law_is_variable; ⟨f, fd, F, m, b, fn_zero⟩
           f__law_is_number := let ⟨f, fd, F, m, b⟩ := h__law_is_number; ⟨f, fd, F, m, b, fn_zero⟩
           f__law_things := let ⟨f, fd, F, m, b⟩ := h__law_things; ⟨f, fd, F, m, b, fn_zero⟩
           f__law_is_term := let ⟨f, fd, F, m, b⟩ := h__law_is_term; ⟨f, fd, F, m, b, fn_zero⟩
           f__law_due := let ⟨f, fd, F, m, b⟩ := h__law_due; ⟨f, fd, F, m, b, fn_zero⟩
           f__law_leaf := let ⟨f, fd, F, m, b⟩ := h__law_leaf; ⟨f, fd, F, m, b, fn_zero⟩
           f__law_value := let ⟨f, fd, F, m, b⟩ := h__law_value; ⟨f, fd, F, m, b, fn_zero⟩
           f__law_chain := let ⟨f, fd, F, m, b⟩ := h__law_chain; ⟨f, fd, F, m, b, fn_zero⟩
           f_law := let ⟨f, fd, F, m, b⟩ := h_law; ⟨f, fd, F, m, b, fn_zero⟩
         }
  | n + 1 =>
    have ih := g_all gc h_is_integer h_is_name h_is_variable h_is_head h_is_rest h_is_applied h_standings h_have_one_sort h_pieces h_numbers_of h_names_of h_is_term h_is_kind h_is_pattern h__law_pot h__law_draw h__law_pick h__law_are_in h__law_is_name h__law_is_variable h__law_is_number h__law_things h__law_is_term h__law_due h__law_leaf h__law_value h__law_chain h_law n
    { toGC := gc
      f_is_integer := let ⟨f, fd, F, m, b⟩ := h_is_integer; ⟨f, fd, F, m, b, fn_rd F sc_is_integer rfl rfl fun cdv A outer s H E hr hG => k_is_integer ih f cdv A outer s H E hr hG⟩
      f_is_name := let ⟨f, fd, F, m, b⟩ := h_is_name; ⟨f, fd, F, m, b, fn_rd F sc_is_name rfl rfl fun cdv A outer s H E hr hG => k_is_name ih f cdv A outer s H E hr hG⟩
      f_is_variable := let ⟨f, fd, F, m, b⟩ := h_is_variable; ⟨f, fd, F, m, b, fn_rd F sc_is_variable rfl rfl fun cdv A outer s H E hr hG => k_is_variable ih f cdv A outer s H E hr hG⟩
      f_is_head := let ⟨f, fd, F, m, b⟩ := h_is_head; ⟨f, fd, F, m, b, fn_rd F sc_is_head rfl rfl fun cdv A outer s H E hr hG => k_is_head ih f cdv A outer s H E hr hG⟩
      f_is_rest := let ⟨f, fd, F, m, b⟩ := h_is_rest; ⟨f, fd, F, m, b, fn_rd F sc_is_rest rfl rfl fun cdv A outer s H E hr hG => k_is_rest ih f cdv A outer s H E hr hG⟩
      f_is_applied := let ⟨f, fd, F, m, b⟩ := h_is_applied; ⟨f, fd, F, m, b, fn_rd F sc_is_applied rfl rfl fun cdv A outer s H E hr hG => k_is_applied ih f cdv A outer s H E hr hG⟩
      f_standings := let ⟨f, fd, F, m, b⟩ := h_standings; ⟨f, fd, F, m, b, fn_rd F sc_standings rfl rfl fun cdv A outer s H E hr hG => k_standings ih f cdv A outer s H E hr hG⟩
      f_have_one_sort := let ⟨f, fd, F, m, b⟩ := h_have_one_sort; ⟨f, fd, F, m, b, fn_rd F sc_have_one_sort rfl rfl fun cdv A outer s H E hr hG => k_have_one_sort ih f cdv A outer s H E hr hG⟩
      f_pieces := let ⟨f, fd, F, m, b⟩ := h_pieces; ⟨f, fd, F, m, b, fn_rd F sc_pieces rfl rfl fun cdv A outer s H E hr hG => k_pieces ih f cdv A outer s H E hr hG⟩
      f_numbers_of := let ⟨f, fd, F, m, b⟩ := h_numbers_of; ⟨f, fd, F, m, b, fn_rd F sc_numbers_of rfl rfl fun cdv A outer s H E hr hG => k_numbers_of ih f cdv A outer s H E hr hG⟩
      f_names_of := let ⟨f, fd, F, m, b⟩ := h_names_of; ⟨f, fd, F, m, b, fn_rd F sc_names_of rfl rfl fun cdv A outer s H E hr hG => k_names_of ih f cdv A outer s H E hr hG⟩
      f_is_term := let ⟨f, fd, F, m, b⟩ := h_is_term; ⟨f, fd, F, m, b, fn_rd F sc_is_term rfl rfl fun cdv A outer s H E hr hG => k_is_term ih f cdv A outer s H E hr hG⟩
      f_is_kind := let ⟨f, fd, F, m, b⟩ := h_is_kind; ⟨f, fd, F, m, b, fn_rd F sc_is_kind rfl rfl fun cdv A outer s H E hr hG => k_is_kind ih f cdv A outer s H E hr hG⟩
      f_is_pattern := let ⟨f, fd, F, m, b⟩ := h_is_pattern; ⟨f, fd, F, m, b, fn_rd F sc_is_pattern rfl rfl fun cdv A outer s H E hr hG => k_is_pattern ih f cdv A outer s H E hr hG⟩
      f__law_pot := let ⟨f, fd, F, m, b⟩ := h__law_pot; ⟨f, fd, F, m, b, fn_rd F sc__law_pot rfl rfl fun cdv A outer s H E hr hG => k__law_pot ih f cdv A outer s H E hr hG⟩
      f__law_draw := let ⟨f, fd, F, m, b⟩ := h__law_draw; ⟨f, fd, F, m, b, fn_rd F sc__law_draw rfl rfl fun cdv A outer s H E hr hG => k__law_draw ih f cdv A outer s H E hr hG⟩
      f__law_pick := let ⟨f, fd, F, m, b⟩ := h__law_pick; ⟨f, fd, F, m, b, fn_rd F sc__law_pick rfl rfl fun cdv A outer s H E hr hG => k__law_pick ih f cdv A outer s H E hr hG⟩
      f__law_are_in := let ⟨f, fd, F, m, b⟩ := h__law_are_in; ⟨f, fd, F, m, b, fn_rd F sc__law_are_in rfl rfl fun cdv A outer s H E hr hG => k__law_are_in ih f cdv A outer s H E hr hG⟩
      f__law_is_name := let ⟨f, fd, F, m, b⟩ := h__law_is_name; ⟨f, fd, F, m, b, fn_rd F sc__law_is_name rfl rfl fun cdv A outer s H E hr hG => k__law_is_name ih f cdv A outer s H E hr hG⟩
      f__law_is_variable := let ⟨f, fd, F, m, b⟩ := h__law_is_variable; ⟨f, fd, F, m, b, fn_rd F sc__law_is_variable rfl rfl fun cdv A outer s H E hr hG => k__law_is_variable ih f cdv A outer s H E hr hG⟩
      f__law_is_number := let ⟨f, fd, F, m, b⟩ := h__law_is_number; ⟨f, fd, F, m, b, fn_rd F sc__law_is_number rfl rfl fun cdv A outer s H E hr hG => k__law_is_number ih f cdv A outer s H E hr hG⟩
      f__law_things := let ⟨f, fd, F, m, b⟩ := h__law_things; ⟨f, fd, F, m, b, fn_rd F sc__law_things rfl rfl fun cdv A outer s H E hr hG => k__law_things ih f cdv A outer s H E hr hG⟩
      f__law_is_term := let ⟨f, fd, F, m, b⟩ := h__law_is_term; ⟨f, fd, F, m, b, fn_rd F sc__law_is_term rfl rfl fun cdv A outer s H E hr hG => k__law_is_term ih f cdv A outer s H E hr hG⟩
      f__law_due := let ⟨f, fd, F, m, b⟩ := h__law_due; ⟨f, fd, F, m, b, fn_rd F sc__law_due rfl rfl fun cdv A outer s H E hr hG => k__law_due ih f cdv A outer s H E hr hG⟩
      f__law_leaf := let ⟨f, fd, F, m, b⟩ := h__law_leaf; ⟨f, fd, F, m, b, fn_rd F sc__law_leaf rfl rfl fun cdv A outer s H E hr hG => k__law_leaf ih f cdv A outer s H E hr hG⟩
      f__law_value := let ⟨f, fd, F, m, b⟩ := h__law_value; ⟨f, fd, F, m, b, fn_rd F sc__law_value rfl rfl fun cdv A outer s H E hr hG => k__law_value ih f cdv A outer s H E hr hG⟩
      f__law_chain := let ⟨f, fd, F, m, b⟩ := h__law_chain; ⟨f, fd, F, m, b, fn_rd F sc__law_chain rfl rfl fun cdv A outer s H E hr hG => k__law_chain ih f cdv A outer s H E hr hG⟩
      f_law := let ⟨f, fd, F, m, b⟩ := h_law; ⟨f, fd, F, m, b, fn_rd F sc_law rfl rfl fun cdv A outer s H E hr hG => k_law ih f cdv A outer s H E hr hG⟩
    }
def depth : Nat := 100
theorem all_mk {l : PySem.W.OpenLaw} {h : Heap} {fa : Addr} (X : K.In h) (G : h.Ns mainGlobals mg) (hfa : mg "law" = some (.ref fa))
    {f_is_integer : Addr} {od_is_integer an_is_integer : Option Addr} {sl_is_integer : Array (Option Value)} {oc_is_integer kV_is_integer dc_is_integer pm_is_integer cd_is_integer ct_is_integer : Value}
    (a_is_integer : PySem.W.nsIn K mainGlobals "is_integer" = some (some (.ref f_is_integer))) (l_is_integer : K.lookup f_is_integer = some ⟨oc_is_integer, od_is_integer, .func (PySem.W.fnOf "is_integer" "is_integer" (defArgs S_is_integer) (defBody S_is_integer) (defScope S_is_integer) .none kV_is_integer dc_is_integer pm_is_integer an_is_integer cd_is_integer ct_is_integer), sl_is_integer⟩) (e_is_integer : PySem.W.codeIn K cd_is_integer "is_integer" = true) (k_is_integer : PySem.W.keepIn K (.ref f_is_integer) = true)
    {f_is_name : Addr} {od_is_name an_is_name : Option Addr} {sl_is_name : Array (Option Value)} {oc_is_name kV_is_name dc_is_name pm_is_name cd_is_name ct_is_name : Value}
    (a_is_name : PySem.W.nsIn K mainGlobals "is_name" = some (some (.ref f_is_name))) (l_is_name : K.lookup f_is_name = some ⟨oc_is_name, od_is_name, .func (PySem.W.fnOf "is_name" "is_name" (defArgs S_is_name) (defBody S_is_name) (defScope S_is_name) .none kV_is_name dc_is_name pm_is_name an_is_name cd_is_name ct_is_name), sl_is_name⟩) (e_is_name : PySem.W.codeIn K cd_is_name "is_name" = true) (k_is_name : PySem.W.keepIn K (.ref f_is_name) = true)
    {f_is_variable : Addr} {od_is_variable an_is_variable : Option Addr} {sl_is_variable : Array (Option Value)} {oc_is_variable kV_is_variable dc_is_variable pm_is_variable cd_is_variable ct_is_variable : Value}
    (a_is_variable : PySem.W.nsIn K mainGlobals "is_variable" = some (some (.ref f_is_variable))) (l_is_variable : K.lookup f_is_variable = some ⟨oc_is_variable, od_is_variable, .func (PySem.W.fnOf "is_variable" "is_variable" (defArgs S_is_variable) (defBody S_is_variable) (defScope S_is_variable) .none kV_is_variable dc_is_variable pm_is_variable an_is_variable cd_is_variable ct_is_variable), sl_is_variable⟩) (e_is_variable : PySem.W.codeIn K cd_is_variable "is_variable" = true) (k_is_variable : PySem.W.keepIn K (.ref f_is_variable) = true)
    {f_is_head : Addr} {od_is_head an_is_head : Option Addr} {sl_is_head : Array (Option Value)} {oc_is_head kV_is_head dc_is_head pm_is_head cd_is_head ct_is_head : Value}
    (a_is_head : PySem.W.nsIn K mainGlobals "is_head" = some (some (.ref f_is_head))) (l_is_head : K.lookup f_is_head = some ⟨oc_is_head, od_is_head, .func (PySem.W.fnOf "is_head" "is_head" (defArgs S_is_head) (defBody S_is_head) (defScope S_is_head) .none kV_is_head dc_is_head pm_is_head an_is_head cd_is_head ct_is_head), sl_is_head⟩) (e_is_head : PySem.W.codeIn K cd_is_head "is_head" = true) (k_is_head : PySem.W.keepIn K (.ref f_is_head) = true)
    {f_is_rest : Addr} {od_is_rest an_is_rest : Option Addr} {sl_is_rest : Array (Option Value)} {oc_is_rest kV_is_rest dc_is_rest pm_is_rest cd_is_rest ct_is_rest : Value}
    (a_is_rest : PySem.W.nsIn K mainGlobals "is_rest" = some (some (.ref f_is_rest))) (l_is_rest : K.lookup f_is_rest = some ⟨oc_is_rest, od_is_rest, .func (PySem.W.fnOf "is_rest" "is_rest" (defArgs S_is_rest) (defBody S_is_rest) (defScope S_is_rest) .none kV_is_rest dc_is_rest pm_is_rest an_is_rest cd_is_rest ct_is_rest), sl_is_rest⟩) (e_is_rest : PySem.W.codeIn K cd_is_rest "is_rest" = true) (k_is_rest : PySem.W.keepIn K (.ref f_is_rest) = true)
    {f_is_applied : Addr} {od_is_applied an_is_applied : Option Addr} {sl_is_applied : Array (Option Value)} {oc_is_applied kV_is_applied dc_is_applied pm_is_applied cd_is_applied ct_is_applied : Value}
    (a_is_applied : PySem.W.nsIn K mainGlobals "is_applied" = some (some (.ref f_is_applied))) (l_is_applied : K.lookup f_is_applied = some ⟨oc_is_applied, od_is_applied, .func (PySem.W.fnOf "is_applied" "is_applied" (defArgs S_is_applied) (defBody S_is_applied) (defScope S_is_applied) .none kV_is_applied dc_is_applied pm_is_applied an_is_applied cd_is_applied ct_is_applied), sl_is_applied⟩) (e_is_applied : PySem.W.codeIn K cd_is_applied "is_applied" = true) (k_is_applied : PySem.W.keepIn K (.ref f_is_applied) = true)
    {f_standings : Addr} {od_standings an_standings : Option Addr} {sl_standings : Array (Option Value)} {oc_standings kV_standings dc_standings pm_standings cd_standings ct_standings : Value}
    (a_standings : PySem.W.nsIn K mainGlobals "standings" = some (some (.ref f_standings))) (l_standings : K.lookup f_standings = some ⟨oc_standings, od_standings, .func (PySem.W.fnOf "standings" "standings" (defArgs S_standings) (defBody S_standings) (defScope S_standings) .none kV_standings dc_standings pm_standings an_standings cd_standings ct_standings), sl_standings⟩) (e_standings : PySem.W.codeIn K cd_standings "standings" = true) (k_standings : PySem.W.keepIn K (.ref f_standings) = true)
    {f_have_one_sort : Addr} {od_have_one_sort an_have_one_sort : Option Addr} {sl_have_one_sort : Array (Option Value)} {oc_have_one_sort kV_have_one_sort dc_have_one_sort pm_have_one_sort cd_have_one_sort ct_have_one_sort : Value}
    (a_have_one_sort : PySem.W.nsIn K mainGlobals "have_one_sort" = some (some (.ref f_have_one_sort))) (l_have_one_sort : K.lookup f_have_one_sort = some ⟨oc_have_one_sort, od_have_one_sort, .func (PySem.W.fnOf "have_one_sort" "have_one_sort" (defArgs S_have_one_sort) (defBody S_have_one_sort) (defScope S_have_one_sort) .none kV_have_one_sort dc_have_one_sort pm_have_one_sort an_have_one_sort cd_have_one_sort ct_have_one_sort), sl_have_one_sort⟩) (e_have_one_sort : PySem.W.codeIn K cd_have_one_sort "have_one_sort" = true) (k_have_one_sort : PySem.W.keepIn K (.ref f_have_one_sort) = true)
    {f_pieces : Addr} {od_pieces an_pieces : Option Addr} {sl_pieces : Array (Option Value)} {oc_pieces kV_pieces dc_pieces pm_pieces cd_pieces ct_pieces : Value}
    (a_pieces : PySem.W.nsIn K mainGlobals "pieces" = some (some (.ref f_pieces))) (l_pieces : K.lookup f_pieces = some ⟨oc_pieces, od_pieces, .func (PySem.W.fnOf "pieces" "pieces" (defArgs S_pieces) (defBody S_pieces) (defScope S_pieces) .none kV_pieces dc_pieces pm_pieces an_pieces cd_pieces ct_pieces), sl_pieces⟩) (e_pieces : PySem.W.codeIn K cd_pieces "pieces" = true) (k_pieces : PySem.W.keepIn K (.ref f_pieces) = true)
    {f_numbers_of : Addr} {od_numbers_of an_numbers_of : Option Addr} {sl_numbers_of : Array (Option Value)} {oc_numbers_of kV_numbers_of dc_numbers_of pm_numbers_of cd_numbers_of ct_numbers_of : Value}
    (a_numbers_of : PySem.W.nsIn K mainGlobals "numbers_of" = some (some (.ref f_numbers_of))) (l_numbers_of : K.lookup f_numbers_of = some ⟨oc_numbers_of, od_numbers_of, .func (PySem.W.fnOf "numbers_of" "numbers_of" (defArgs S_numbers_of) (defBody S_numbers_of) (defScope S_numbers_of) .none kV_numbers_of dc_numbers_of pm_numbers_of an_numbers_of cd_numbers_of ct_numbers_of), sl_numbers_of⟩) (e_numbers_of : PySem.W.codeIn K cd_numbers_of "numbers_of" = true) (k_numbers_of : PySem.W.keepIn K (.ref f_numbers_of) = true)
    {f_names_of : Addr} {od_names_of an_names_of : Option Addr} {sl_names_of : Array (Option Value)} {oc_names_of kV_names_of dc_names_of pm_names_of cd_names_of ct_names_of : Value}
    (a_names_of : PySem.W.nsIn K mainGlobals "names_of" = some (some (.ref f_names_of))) (l_names_of : K.lookup f_names_of = some ⟨oc_names_of, od_names_of, .func (PySem.W.fnOf "names_of" "names_of" (defArgs S_names_of) (defBody S_names_of) (defScope S_names_of) .none kV_names_of dc_names_of pm_names_of an_names_of cd_names_of ct_names_of), sl_names_of⟩) (e_names_of : PySem.W.codeIn K cd_names_of "names_of" = true) (k_names_of : PySem.W.keepIn K (.ref f_names_of) = true)
    {f_is_term : Addr} {od_is_term an_is_term : Option Addr} {sl_is_term : Array (Option Value)} {oc_is_term kV_is_term dc_is_term pm_is_term cd_is_term ct_is_term : Value}
    (a_is_term : PySem.W.nsIn K mainGlobals "is_term" = some (some (.ref f_is_term))) (l_is_term : K.lookup f_is_term = some ⟨oc_is_term, od_is_term, .func (PySem.W.fnOf "is_term" "is_term" (defArgs S_is_term) (defBody S_is_term) (defScope S_is_term) .none kV_is_term dc_is_term pm_is_term an_is_term cd_is_term ct_is_term), sl_is_term⟩) (e_is_term : PySem.W.codeIn K cd_is_term "is_term" = true) (k_is_term : PySem.W.keepIn K (.ref f_is_term) = true)
    {f_is_kind : Addr} {od_is_kind an_is_kind : Option Addr} {sl_is_kind : Array (Option Value)} {oc_is_kind kV_is_kind dc_is_kind pm_is_kind cd_is_kind ct_is_kind : Value}
    (a_is_kind : PySem.W.nsIn K mainGlobals "is_kind" = some (some (.ref f_is_kind))) (l_is_kind : K.lookup f_is_kind = some ⟨oc_is_kind, od_is_kind, .func (PySem.W.fnOf "is_kind" "is_kind" (defArgs S_is_kind) (defBody S_is_kind) (defScope S_is_kind) .none kV_is_kind dc_is_kind pm_is_kind an_is_kind cd_is_kind ct_is_kind), sl_is_kind⟩) (e_is_kind : PySem.W.codeIn K cd_is_kind "is_kind" = true) (k_is_kind : PySem.W.keepIn K (.ref f_is_kind) = true)
    {f_is_pattern : Addr} {od_is_pattern an_is_pattern : Option Addr} {sl_is_pattern : Array (Option Value)} {oc_is_pattern kV_is_pattern dc_is_pattern pm_is_pattern cd_is_pattern ct_is_pattern : Value}
    (a_is_pattern : PySem.W.nsIn K mainGlobals "is_pattern" = some (some (.ref f_is_pattern))) (l_is_pattern : K.lookup f_is_pattern = some ⟨oc_is_pattern, od_is_pattern, .func (PySem.W.fnOf "is_pattern" "is_pattern" (defArgs S_is_pattern) (defBody S_is_pattern) (defScope S_is_pattern) .none kV_is_pattern dc_is_pattern pm_is_pattern an_is_pattern cd_is_pattern ct_is_pattern), sl_is_pattern⟩) (e_is_pattern : PySem.W.codeIn K cd_is_pattern "is_pattern" = true) (k_is_pattern : PySem.W.keepIn K (.ref f_is_pattern) = true)
    {f__law_pot : Addr} {od__law_pot an__law_pot : Option Addr} {sl__law_pot : Array (Option Value)} {oc__law_pot kV__law_pot dc__law_pot pm__law_pot cd__law_pot ct__law_pot : Value}
    (a__law_pot : PySem.W.nsIn K mainGlobals "_law_pot" = some (some (.ref f__law_pot))) (l__law_pot : K.lookup f__law_pot = some ⟨oc__law_pot, od__law_pot, .func (PySem.W.fnOf "_law_pot" "_law_pot" (defArgs S__law_pot) (defBody S__law_pot) (defScope S__law_pot) .none kV__law_pot dc__law_pot pm__law_pot an__law_pot cd__law_pot ct__law_pot), sl__law_pot⟩) (e__law_pot : PySem.W.codeIn K cd__law_pot "_law_pot" = true) (k__law_pot : PySem.W.keepIn K (.ref f__law_pot) = true)
    {f__law_draw : Addr} {od__law_draw an__law_draw : Option Addr} {sl__law_draw : Array (Option Value)} {oc__law_draw kV__law_draw dc__law_draw pm__law_draw cd__law_draw ct__law_draw : Value}
    (a__law_draw : PySem.W.nsIn K mainGlobals "_law_draw" = some (some (.ref f__law_draw))) (l__law_draw : K.lookup f__law_draw = some ⟨oc__law_draw, od__law_draw, .func (PySem.W.fnOf "_law_draw" "_law_draw" (defArgs S__law_draw) (defBody S__law_draw) (defScope S__law_draw) .none kV__law_draw dc__law_draw pm__law_draw an__law_draw cd__law_draw ct__law_draw), sl__law_draw⟩) (e__law_draw : PySem.W.codeIn K cd__law_draw "_law_draw" = true) (k__law_draw : PySem.W.keepIn K (.ref f__law_draw) = true)
    {f__law_pick : Addr} {od__law_pick an__law_pick : Option Addr} {sl__law_pick : Array (Option Value)} {oc__law_pick kV__law_pick dc__law_pick pm__law_pick cd__law_pick ct__law_pick : Value}
    (a__law_pick : PySem.W.nsIn K mainGlobals "_law_pick" = some (some (.ref f__law_pick))) (l__law_pick : K.lookup f__law_pick = some ⟨oc__law_pick, od__law_pick, .func (PySem.W.fnOf "_law_pick" "_law_pick" (defArgs S__law_pick) (defBody S__law_pick) (defScope S__law_pick) .none kV__law_pick dc__law_pick pm__law_pick an__law_pick cd__law_pick ct__law_pick), sl__law_pick⟩) (e__law_pick : PySem.W.codeIn K cd__law_pick "_law_pick" = true) (k__law_pick : PySem.W.keepIn K (.ref f__law_pick) = true)
    {f__law_are_in : Addr} {od__law_are_in an__law_are_in : Option Addr} {sl__law_are_in : Array (Option Value)} {oc__law_are_in kV__law_are_in dc__law_are_in pm__law_are_in cd__law_are_in ct__law_are_in : Value}
    (a__law_are_in : PySem.W.nsIn K mainGlobals "_law_are_in" = some (some (.ref f__law_are_in))) (l__law_are_in : K.lookup f__law_are_in = some ⟨oc__law_are_in, od__law_are_in, .func (PySem.W.fnOf "_law_are_in" "_law_are_in" (defArgs S__law_are_in) (defBody S__law_are_in) (defScope S__law_are_in) .none kV__law_are_in dc__law_are_in pm__law_are_in an__law_are_in cd__law_are_in ct__law_are_in), sl__law_are_in⟩) (e__law_are_in : PySem.W.codeIn K cd__law_are_in "_law_are_in" = true) (k__law_are_in : PySem.W.keepIn K (.ref f__law_are_in) = true)
    {f__law_is_name : Addr} {od__law_is_name an__law_is_name : Option Addr} {sl__law_is_name : Array (Option Value)} {oc__law_is_name kV__law_is_name dc__law_is_name pm__law_is_name cd__law_is_name ct__law_is_name : Value}
    (a__law_is_name : PySem.W.nsIn K mainGlobals "_law_is_name" = some (some (.ref f__law_is_name))) (l__law_is_name : K.lookup f__law_is_name = some ⟨oc__law_is_name, od__law_is_name, .func (PySem.W.fnOf "_law_is_name" "_law_is_name" (defArgs S__law_is_name) (defBody S__law_is_name) (defScope S__law_is_name) .none kV__law_is_name dc__law_is_name pm__law_is_name an__law_is_name cd__law_is_name ct__law_is_name), sl__law_is_name⟩) (e__law_is_name : PySem.W.codeIn K cd__law_is_name "_law_is_name" = true) (k__law_is_name : PySem.W.keepIn K (.ref f__law_is_name) = true)
    {f__law_is_variable : Addr} {od__law_is_variable an__law_is_variable : Option Addr} {sl__law_is_variable : Array (Option Value)} {oc__law_is_variable kV__law_is_variable dc__law_is_variable pm__law_is_variable cd__law_is_variable ct__law_is_variable : Value}
    (a__law_is_variable : PySem.W.nsIn K mainGlobals "_law_is_variable" = some (some (.ref f__law_is_variable))) (l__law_is_variable : K.lookup f__law_is_variable = some ⟨oc__law_is_variable, od__law_is_variable, .func (PySem.W.fnOf "_law_is_variable" "_law_is_variable" (defArgs S__law_is_variable) (defBody S__law_is_variable) (defScope S__law_is_variable) .none kV__law_is_variable dc__law_is_variable pm__law_is_variable an__law_is_variable cd__law_is_variable ct__law_is_variable), sl__law_is_variable⟩) (e__law_is_variable : PySem.W.codeIn K cd__law_is_variable "_law_is_variable" = true) (k__law_is_variable : PySem.W.keepIn K (.ref f__law_is_variable) = true)
    {f__law_is_number : Addr} {od__law_is_number an__law_is_number : Option Addr} {sl__law_is_number : Array (Option Value)} {oc__law_is_number kV__law_is_number dc__law_is_number pm__law_is_number cd__law_is_number ct__law_is_number : Value}
    (a__law_is_number : PySem.W.nsIn K mainGlobals "_law_is_number" = some (some (.ref f__law_is_number))) (l__law_is_number : K.lookup f__law_is_number = some ⟨oc__law_is_number, od__law_is_number, .func (PySem.W.fnOf "_law_is_number" "_law_is_number" (defArgs S__law_is_number) (defBody S__law_is_number) (defScope S__law_is_number) .none kV__law_is_number dc__law_is_number pm__law_is_number an__law_is_number cd__law_is_number ct__law_is_number), sl__law_is_number⟩) (e__law_is_number : PySem.W.codeIn K cd__law_is_number "_law_is_number" = true) (k__law_is_number : PySem.W.keepIn K (.ref f__law_is_number) = true)
    {f__law_things : Addr} {od__law_things an__law_things : Option Addr} {sl__law_things : Array (Option Value)} {oc__law_things kV__law_things dc__law_things pm__law_things cd__law_things ct__law_things : Value}
    (a__law_things : PySem.W.nsIn K mainGlobals "_law_things" = some (some (.ref f__law_things))) (l__law_things : K.lookup f__law_things = some ⟨oc__law_things, od__law_things, .func (PySem.W.fnOf "_law_things" "_law_things" (defArgs S__law_things) (defBody S__law_things) (defScope S__law_things) .none kV__law_things dc__law_things pm__law_things an__law_things cd__law_things ct__law_things), sl__law_things⟩) (e__law_things : PySem.W.codeIn K cd__law_things "_law_things" = true) (k__law_things : PySem.W.keepIn K (.ref f__law_things) = true)
    {f__law_is_term : Addr} {od__law_is_term an__law_is_term : Option Addr} {sl__law_is_term : Array (Option Value)} {oc__law_is_term kV__law_is_term dc__law_is_term pm__law_is_term cd__law_is_term ct__law_is_term : Value}
    (a__law_is_term : PySem.W.nsIn K mainGlobals "_law_is_term" = some (some (.ref f__law_is_term))) (l__law_is_term : K.lookup f__law_is_term = some ⟨oc__law_is_term, od__law_is_term, .func (PySem.W.fnOf "_law_is_term" "_law_is_term" (defArgs S__law_is_term) (defBody S__law_is_term) (defScope S__law_is_term) .none kV__law_is_term dc__law_is_term pm__law_is_term an__law_is_term cd__law_is_term ct__law_is_term), sl__law_is_term⟩) (e__law_is_term : PySem.W.codeIn K cd__law_is_term "_law_is_term" = true) (k__law_is_term : PySem.W.keepIn K (.ref f__law_is_term) = true)
    {f__law_due : Addr} {od__law_due an__law_due : Option Addr} {sl__law_due : Array (Option Value)} {oc__law_due kV__law_due dc__law_due pm__law_due cd__law_due ct__law_due : Value}
    (a__law_due : PySem.W.nsIn K mainGlobals "_law_due" = some (some (.ref f__law_due))) (l__law_due : K.lookup f__law_due = some ⟨oc__law_due, od__law_due, .func (PySem.W.fnOf "_law_due" "_law_due" (defArgs S__law_due) (defBody S__law_due) (defScope S__law_due) .none kV__law_due dc__law_due pm__law_due an__law_due cd__law_due ct__law_due), sl__law_due⟩) (e__law_due : PySem.W.codeIn K cd__law_due "_law_due" = true) (k__law_due : PySem.W.keepIn K (.ref f__law_due) = true)
    {f__law_leaf : Addr} {od__law_leaf an__law_leaf : Option Addr} {sl__law_leaf : Array (Option Value)} {oc__law_leaf kV__law_leaf dc__law_leaf pm__law_leaf cd__law_leaf ct__law_leaf : Value}
    (a__law_leaf : PySem.W.nsIn K mainGlobals "_law_leaf" = some (some (.ref f__law_leaf))) (l__law_leaf : K.lookup f__law_leaf = some ⟨oc__law_leaf, od__law_leaf, .func (PySem.W.fnOf "_law_leaf" "_law_leaf" (defArgs S__law_leaf) (defBody S__law_leaf) (defScope S__law_leaf) .none kV__law_leaf dc__law_leaf pm__law_leaf an__law_leaf cd__law_leaf ct__law_leaf), sl__law_leaf⟩) (e__law_leaf : PySem.W.codeIn K cd__law_leaf "_law_leaf" = true) (k__law_leaf : PySem.W.keepIn K (.ref f__law_leaf) = true)
    {f__law_value : Addr} {od__law_value an__law_value : Option Addr} {sl__law_value : Array (Option Value)} {oc__law_value kV__law_value dc__law_value pm__law_value cd__law_value ct__law_value : Value}
    (a__law_value : PySem.W.nsIn K mainGlobals "_law_value" = some (some (.ref f__law_value))) (l__law_value : K.lookup f__law_value = some ⟨oc__law_value, od__law_value, .func (PySem.W.fnOf "_law_value" "_law_value" (defArgs S__law_value) (defBody S__law_value) (defScope S__law_value) .none kV__law_value dc__law_value pm__law_value an__law_value cd__law_value ct__law_value), sl__law_value⟩) (e__law_value : PySem.W.codeIn K cd__law_value "_law_value" = true) (k__law_value : PySem.W.keepIn K (.ref f__law_value) = true)
    {f__law_chain : Addr} {od__law_chain an__law_chain : Option Addr} {sl__law_chain : Array (Option Value)} {oc__law_chain kV__law_chain dc__law_chain pm__law_chain cd__law_chain ct__law_chain : Value}
    (a__law_chain : PySem.W.nsIn K mainGlobals "_law_chain" = some (some (.ref f__law_chain))) (l__law_chain : K.lookup f__law_chain = some ⟨oc__law_chain, od__law_chain, .func (PySem.W.fnOf "_law_chain" "_law_chain" (defArgs S__law_chain) (defBody S__law_chain) (defScope S__law_chain) .none kV__law_chain dc__law_chain pm__law_chain an__law_chain cd__law_chain ct__law_chain), sl__law_chain⟩) (e__law_chain : PySem.W.codeIn K cd__law_chain "_law_chain" = true) (k__law_chain : PySem.W.keepIn K (.ref f__law_chain) = true)
    {f_law : Addr} {od_law an_law : Option Addr} {sl_law : Array (Option Value)} {oc_law kV_law dc_law pm_law cd_law ct_law : Value}
    (a_law : PySem.W.nsIn K mainGlobals "law" = some (some (.ref f_law))) (l_law : K.lookup f_law = some ⟨oc_law, od_law, .func (PySem.W.fnOf "law" "law" (defArgs S_law) (defBody S_law) (defScope S_law) .none kV_law dc_law pm_law an_law cd_law ct_law), sl_law⟩) (e_law : PySem.W.codeIn K cd_law "law" = true) (k_law : PySem.W.keepIn K (.ref f_law) = true)
    (z_abs : PySem.W.nsIn K mainGlobals "abs" = some none)
    (z_all : PySem.W.nsIn K mainGlobals "all" = some none)
    (z_any : PySem.W.nsIn K mainGlobals "any" = some none)
    (z_bool : PySem.W.nsIn K mainGlobals "bool" = some none)
    (z_divmod : PySem.W.nsIn K mainGlobals "divmod" = some none)
    (z_enumerate : PySem.W.nsIn K mainGlobals "enumerate" = some none)
    (z_int : PySem.W.nsIn K mainGlobals "int" = some none)
    (z_isinstance : PySem.W.nsIn K mainGlobals "isinstance" = some none)
    (z_len : PySem.W.nsIn K mainGlobals "len" = some none)
    (z_max : PySem.W.nsIn K mainGlobals "max" = some none)
    (z_range : PySem.W.nsIn K mainGlobals "range" = some none)
    (z_repr : PySem.W.nsIn K mainGlobals "repr" = some none)
    (z_set : PySem.W.nsIn K mainGlobals "set" = some none)
    (z_sorted : PySem.W.nsIn K mainGlobals "sorted" = some none)
    (z_str : PySem.W.nsIn K mainGlobals "str" = some none)
    (z_tuple : PySem.W.nsIn K mainGlobals "tuple" = some none)
    {t_DIGITS : Tok} (c_DIGITS : PySem.W.nsIn K mainGlobals "DIGITS" = some (some (.str "0123456789" t_DIGITS)))
    {t_FRESH_NAME : Tok} (c_FRESH_NAME : PySem.W.nsIn K mainGlobals "FRESH_NAME" = some (some (.str "zz" t_FRESH_NAME)))
    {t_GREAT : Tok} (c_GREAT : PySem.W.nsIn K mainGlobals "GREAT" = some (some (.str "ABCDEFGHIJKLMNOPQRSTUVWXYZ" t_GREAT)))
    {t_HEAD : Tok} (c_HEAD : PySem.W.nsIn K mainGlobals "HEAD" = some (some (.str "head" t_HEAD)))
    {t_MOST_DIGITS : Tok} (c_MOST_DIGITS : PySem.W.nsIn K mainGlobals "MOST_DIGITS" = some (some (.int (2) t_MOST_DIGITS)))
    {t_MOST_NUMBER : Tok} (c_MOST_NUMBER : PySem.W.nsIn K mainGlobals "MOST_NUMBER" = some (some (.int (999) t_MOST_NUMBER)))
    {t_MOST_SIGNS : Tok} (c_MOST_SIGNS : PySem.W.nsIn K mainGlobals "MOST_SIGNS" = some (some (.int (8) t_MOST_SIGNS)))
    {t_REST : Tok} (c_REST : PySem.W.nsIn K mainGlobals "REST" = some (some (.str "rest" t_REST)))
    {t_SMALL : Tok} (c_SMALL : PySem.W.nsIn K mainGlobals "SMALL" = some (some (.str "abcdefghijklmnopqrstuvwxyz" t_SMALL)))
    {t_TERM : Tok} (c_TERM : PySem.W.nsIn K mainGlobals "TERM" = some (some (.str "term" t_TERM)))
    : ∃ fd : FuncData, (∀ (s : Shared) (v : Value), BindsTo s fd ⟨[v], []⟩ [("script", v)]) ∧ ∀ base : Heap, K.In base → base.Ns mainGlobals mg → FnG l.prog w K mg base CX0 depth fa fd ["script"] (spF K (fun _ => 0) (run T depth) 27 1) := by
  have e := hfa.symm.trans (PySem.W.mg_of X G a_law)
  cases e
  have F_is_integer := fun_mk (st := S_is_integer) l_is_integer e_is_integer k_is_integer
  have b_is_integer := F_is_integer.binds (ps := ["value"]) fun _ _ _ _ _ _ us hl => match us, hl with | [_], _ => rfl
  have F_is_name := fun_mk (st := S_is_name) l_is_name e_is_name k_is_name
  have b_is_name := F_is_name.binds (ps := ["value"]) fun _ _ _ _ _ _ us hl => match us, hl with | [_], _ => rfl
  have F_is_variable := fun_mk (st := S_is_variable) l_is_variable e_is_variable k_is_variable
  have b_is_variable := F_is_variable.binds (ps := ["value"]) fun _ _ _ _ _ _ us hl => match us, hl with | [_], _ => rfl
  have F_is_head := fun_mk (st := S_is_head) l_is_head e_is_head k_is_head
  have b_is_head := F_is_head.binds (ps := ["value"]) fun _ _ _ _ _ _ us hl => match us, hl with | [_], _ => rfl
  have F_is_rest := fun_mk (st := S_is_rest) l_is_rest e_is_rest k_is_rest
  have b_is_rest := F_is_rest.binds (ps := ["value"]) fun _ _ _ _ _ _ us hl => match us, hl with | [_], _ => rfl
  have F_is_applied := fun_mk (st := S_is_applied) l_is_applied e_is_applied k_is_applied
  have b_is_applied := F_is_applied.binds (ps := ["value"]) fun _ _ _ _ _ _ us hl => match us, hl with | [_], _ => rfl
  have F_standings := fun_mk (st := S_standings) l_standings e_standings k_standings
  have b_standings := F_standings.binds (ps := ["value"]) fun _ _ _ _ _ _ us hl => match us, hl with | [_], _ => rfl
  have F_have_one_sort := fun_mk (st := S_have_one_sort) l_have_one_sort e_have_one_sort k_have_one_sort
  have b_have_one_sort := F_have_one_sort.binds (ps := ["found"]) fun _ _ _ _ _ _ us hl => match us, hl with | [_], _ => rfl
  have F_pieces := fun_mk (st := S_pieces) l_pieces e_pieces k_pieces
  have b_pieces := F_pieces.binds (ps := ["term"]) fun _ _ _ _ _ _ us hl => match us, hl with | [_], _ => rfl
  have F_numbers_of := fun_mk (st := S_numbers_of) l_numbers_of e_numbers_of k_numbers_of
  have b_numbers_of := F_numbers_of.binds (ps := ["term"]) fun _ _ _ _ _ _ us hl => match us, hl with | [_], _ => rfl
  have F_names_of := fun_mk (st := S_names_of) l_names_of e_names_of k_names_of
  have b_names_of := F_names_of.binds (ps := ["term"]) fun _ _ _ _ _ _ us hl => match us, hl with | [_], _ => rfl
  have F_is_term := fun_mk (st := S_is_term) l_is_term e_is_term k_is_term
  have b_is_term := F_is_term.binds (ps := ["value"]) fun _ _ _ _ _ _ us hl => match us, hl with | [_], _ => rfl
  have F_is_kind := fun_mk (st := S_is_kind) l_is_kind e_is_kind k_is_kind
  have b_is_kind := F_is_kind.binds (ps := ["value"]) fun _ _ _ _ _ _ us hl => match us, hl with | [_], _ => rfl
  have F_is_pattern := fun_mk (st := S_is_pattern) l_is_pattern e_is_pattern k_is_pattern
  have b_is_pattern := F_is_pattern.binds (ps := ["value"]) fun _ _ _ _ _ _ us hl => match us, hl with | [_], _ => rfl
  have F__law_pot := fun_mk (st := S__law_pot) l__law_pot e__law_pot k__law_pot
  have b__law_pot := F__law_pot.binds (ps := ["script", "k"]) fun _ _ _ _ _ _ us hl => match us, hl with | [_, _], _ => rfl
  have F__law_draw := fun_mk (st := S__law_draw) l__law_draw e__law_draw k__law_draw
  have b__law_draw := F__law_draw.binds (ps := ["pot", "many"]) fun _ _ _ _ _ _ us hl => match us, hl with | [_, _], _ => rfl
  have F__law_pick := fun_mk (st := S__law_pick) l__law_pick e__law_pick k__law_pick
  have b__law_pick := F__law_pick.binds (ps := ["pot", "some"]) fun _ _ _ _ _ _ us hl => match us, hl with | [_, _], _ => rfl
  have F__law_are_in := fun_mk (st := S__law_are_in) l__law_are_in e__law_are_in k__law_are_in
  have b__law_are_in := F__law_are_in.binds (ps := ["signs", "some"]) fun _ _ _ _ _ _ us hl => match us, hl with | [_, _], _ => rfl
  have F__law_is_name := fun_mk (st := S__law_is_name) l__law_is_name e__law_is_name k__law_is_name
  have b__law_is_name := F__law_is_name.binds (ps := ["value"]) fun _ _ _ _ _ _ us hl => match us, hl with | [_], _ => rfl
  have F__law_is_variable := fun_mk (st := S__law_is_variable) l__law_is_variable e__law_is_variable k__law_is_variable
  have b__law_is_variable := F__law_is_variable.binds (ps := ["value"]) fun _ _ _ _ _ _ us hl => match us, hl with | [_], _ => rfl
  have F__law_is_number := fun_mk (st := S__law_is_number) l__law_is_number e__law_is_number k__law_is_number
  have b__law_is_number := F__law_is_number.binds (ps := ["value"]) fun _ _ _ _ _ _ us hl => match us, hl with | [_], _ => rfl
  have F__law_things := fun_mk (st := S__law_things) l__law_things e__law_things k__law_things
  have b__law_things := F__law_things.binds (ps := ["value"]) fun _ _ _ _ _ _ us hl => match us, hl with | [_], _ => rfl
  have F__law_is_term := fun_mk (st := S__law_is_term) l__law_is_term e__law_is_term k__law_is_term
  have b__law_is_term := F__law_is_term.binds (ps := ["things"]) fun _ _ _ _ _ _ us hl => match us, hl with | [_], _ => rfl
  have F__law_due := fun_mk (st := S__law_due) l__law_due e__law_due k__law_due
  have b__law_due := F__law_due.binds (ps := ["value"]) fun _ _ _ _ _ _ us hl => match us, hl with | [_], _ => rfl
  have F__law_leaf := fun_mk (st := S__law_leaf) l__law_leaf e__law_leaf k__law_leaf
  have b__law_leaf := F__law_leaf.binds (ps := ["pot"]) fun _ _ _ _ _ _ us hl => match us, hl with | [_], _ => rfl
  have F__law_value := fun_mk (st := S__law_value) l__law_value e__law_value k__law_value
  have b__law_value := F__law_value.binds (ps := ["pot", "deep", "is_odd"]) fun _ _ _ _ _ _ us hl => match us, hl with | [_, _, _], _ => rfl
  have F__law_chain := fun_mk (st := S__law_chain) l__law_chain e__law_chain k__law_chain
  have b__law_chain := F__law_chain.binds (ps := ["pot", "is_odd"]) fun _ _ _ _ _ _ us hl => match us, hl with | [_, _], _ => rfl
  have F_law := fun_mk (st := S_law) l_law e_law k_law
  have b_law := F_law.binds (ps := ["script"]) fun _ _ _ _ _ _ us hl => match us, hl with | [_], _ => rfl
  refine ⟨PySem.W.fnOf "law" "law" (defArgs S_law) (defBody S_law) (defScope S_law) .none kV_law dc_law pm_law an_law cd_law ct_law, fun s v => .of_eq rfl, fun base _ _ => ?_⟩
  have gc : GC mg := { b_abs := PySem.W.mg_none_of X G z_abs, b_all := PySem.W.mg_none_of X G z_all, b_any := PySem.W.mg_none_of X G z_any, b_bool := PySem.W.mg_none_of X G z_bool, b_divmod := PySem.W.mg_none_of X G z_divmod, b_enumerate := PySem.W.mg_none_of X G z_enumerate, b_int := PySem.W.mg_none_of X G z_int, b_isinstance := PySem.W.mg_none_of X G z_isinstance, b_len := PySem.W.mg_none_of X G z_len, b_max := PySem.W.mg_none_of X G z_max, b_range := PySem.W.mg_none_of X G z_range, b_repr := PySem.W.mg_none_of X G z_repr, b_set := PySem.W.mg_none_of X G z_set, b_sorted := PySem.W.mg_none_of X G z_sorted, b_str := PySem.W.mg_none_of X G z_str, b_tuple := PySem.W.mg_none_of X G z_tuple, c_DIGITS := ⟨_, PySem.W.mg_of X G c_DIGITS, ⟨_, rfl⟩⟩, c_FRESH_NAME := ⟨_, PySem.W.mg_of X G c_FRESH_NAME, ⟨_, rfl⟩⟩, c_GREAT := ⟨_, PySem.W.mg_of X G c_GREAT, ⟨_, rfl⟩⟩, c_HEAD := ⟨_, PySem.W.mg_of X G c_HEAD, ⟨_, rfl⟩⟩, c_MOST_DIGITS := ⟨_, PySem.W.mg_of X G c_MOST_DIGITS, ⟨_, rfl⟩⟩, c_MOST_NUMBER := ⟨_, PySem.W.mg_of X G c_MOST_NUMBER, ⟨_, rfl⟩⟩, c_MOST_SIGNS := ⟨_, PySem.W.mg_of X G c_MOST_SIGNS, ⟨_, rfl⟩⟩, c_REST := ⟨_, PySem.W.mg_of X G c_REST, ⟨_, rfl⟩⟩, c_SMALL := ⟨_, PySem.W.mg_of X G c_SMALL, ⟨_, rfl⟩⟩, c_TERM := ⟨_, PySem.W.mg_of X G c_TERM, ⟨_, rfl⟩⟩ }
  exact law_fn (g_all (P := l.prog) (w := w) (base := base) gc ⟨_, _, F_is_integer, PySem.W.mg_of X G a_is_integer, b_is_integer⟩ ⟨_, _, F_is_name, PySem.W.mg_of X G a_is_name, b_is_name⟩ ⟨_, _, F_is_variable, PySem.W.mg_of X G a_is_variable, b_is_variable⟩ ⟨_, _, F_is_head, PySem.W.mg_of X G a_is_head, b_is_head⟩ ⟨_, _, F_is_rest, PySem.W.mg_of X G a_is_rest, b_is_rest⟩ ⟨_, _, F_is_applied, PySem.W.mg_of X G a_is_applied, b_is_applied⟩ ⟨_, _, F_standings, PySem.W.mg_of X G a_standings, b_standings⟩ ⟨_, _, F_have_one_sort, PySem.W.mg_of X G a_have_one_sort, b_have_one_sort⟩ ⟨_, _, F_pieces, PySem.W.mg_of X G a_pieces, b_pieces⟩ ⟨_, _, F_numbers_of, PySem.W.mg_of X G a_numbers_of, b_numbers_of⟩ ⟨_, _, F_names_of, PySem.W.mg_of X G a_names_of, b_names_of⟩ ⟨_, _, F_is_term, PySem.W.mg_of X G a_is_term, b_is_term⟩ ⟨_, _, F_is_kind, PySem.W.mg_of X G a_is_kind, b_is_kind⟩ ⟨_, _, F_is_pattern, PySem.W.mg_of X G a_is_pattern, b_is_pattern⟩ ⟨_, _, F__law_pot, PySem.W.mg_of X G a__law_pot, b__law_pot⟩ ⟨_, _, F__law_draw, PySem.W.mg_of X G a__law_draw, b__law_draw⟩ ⟨_, _, F__law_pick, PySem.W.mg_of X G a__law_pick, b__law_pick⟩ ⟨_, _, F__law_are_in, PySem.W.mg_of X G a__law_are_in, b__law_are_in⟩ ⟨_, _, F__law_is_name, PySem.W.mg_of X G a__law_is_name, b__law_is_name⟩ ⟨_, _, F__law_is_variable, PySem.W.mg_of X G a__law_is_variable, b__law_is_variable⟩ ⟨_, _, F__law_is_number, PySem.W.mg_of X G a__law_is_number, b__law_is_number⟩ ⟨_, _, F__law_things, PySem.W.mg_of X G a__law_things, b__law_things⟩ ⟨_, _, F__law_is_term, PySem.W.mg_of X G a__law_is_term, b__law_is_term⟩ ⟨_, _, F__law_due, PySem.W.mg_of X G a__law_due, b__law_due⟩ ⟨_, _, F__law_leaf, PySem.W.mg_of X G a__law_leaf, b__law_leaf⟩ ⟨_, _, F__law_value, PySem.W.mg_of X G a__law_value, b__law_value⟩ ⟨_, _, F__law_chain, PySem.W.mg_of X G a__law_chain, b__law_chain⟩ ⟨_, _, F_law, PySem.W.mg_of X G a_law, b_law⟩ depth).f_law F_law (PySem.W.mg_of X G a_law)
theorem walk {l : PySem.W.OpenLaw} {q : Program} {loose : List Str} {XP : (Str → Option Value) → Heap → Prop} {YP : World → Heap → Prop} {d : DefRec} {K : Params → PySem.W.Frag} (hn : l.most = some 63) (hdf : d.params.defaults = [])
    (hrun : ∀ ns : List Int, ns.length ≤ 63 → ∃ μ, run T depth 27 [.dat (.scr ns)] [] = .ok (.dat (.bl true)) μ) (hY : ∀ (w : World) (h : Heap), YP w h → (K w.params).In h)
    (F : ∀ (w : World) (mg : Str → Option Value) (fa : Addr) (h : Heap), (K w.params).In h → h.Ns mainGlobals mg → mg d.name = some (.ref fa) →
      ∃ fd : FuncData, (∀ (s : Shared) (u : Value), BindsTo s fd ⟨[u], []⟩ [("script", u)]) ∧ ∀ base : Heap, (K w.params).In base → base.Ns mainGlobals mg → FnG l.prog w (K w.params) mg base CX0 depth fa fd ["script"] (spF (K w.params) (fun _ => 0) (run T depth) 27 1)) :
    PySem.W.WalkO q loose XP YP l.row.toRowW d [] (fun f vs => PySem.call f vs) :=
  top_walk (n := 63) (k := depth) (x := "script") (CX := fun _ => CX0) (sp := fun w => spF (K w.params) (fun _ => 0) (run T depth) 27 1) hn (by decide) hdf ⟨rfl, by decide, by decide⟩ hY F (fun _ _ a ns hl _ hS => law_sp hS (hrun ns hl)) fun _ _ _ _ _ z => z
end Law
set_option maxHeartbeats 0
/-! k11, the plain law: the pieces that are drawn. -/
namespace K11
open VM Law
open L2 (atI ixN)
theorem run_at {n i nl : Nat} {b : SS} {vs : List SV} {μ : Sto} (h : T[i]? = some (nl, b)) : VM.run T (n + 1) i vs μ = callEnd μ.length (b (VM.run T n) (startE nl vs) μ) := by
  show (match T[i]? with | some (nl, b) => callF nl b (VM.run T n) vs μ | none => .bad) = _
  rw [h]; rfl
theorem pure_of {n i : Nat} {vs : List SV} {μ : Sto} {v : EV} (h : VM.run T n i vs μ = .ok v (μ.take μ.length)) : VM.run T n i vs μ = .ok v μ := by
  rw [h, List.take_length]
theorem pure2 {n i : Nat} {vs : List SV} {μ : Sto} {v : EV} (h : VM.run T n i vs μ = .ok v ((μ.take μ.length).take μ.length)) : VM.run T n i vs μ = .ok v μ := by
  rw [h, List.take_length, List.take_length]
theorem pure3 {n i : Nat} {vs : List SV} {μ : Sto} {v : EV} (h : VM.run T n i vs μ = .ok v (((μ.take μ.length).take (μ.take μ.length).length).take μ.length)) : VM.run T n i vs μ = .ok v μ := by
  rw [h, List.take_length, List.take_length, List.take_length]
inductive Lf where
  | l0 | l1 | l2 | l3 | l4 | l5 | l6 | l7 | l8 | l9 | l10 | l11 | l12 | l13 | l14 | l15 | l16 | l17 | l18 | l19 | l20 | l21 | l22 | l23 | l24 | l25 | l26 | l27 | l28 | l29 | l30 | l31 | l32 | l33
inductive Hd where
  | h0 | h1 | h2 | h3 | h4 | h5 | h6 | h7 | h8 | h9 | h10 | h11 | h12 | h13 | h14 | h15 | h16 | h17 | h18 | h19 | h20 | h21
def lfD : Lf → D
  | .l0 => .str "X"
  | .l1 => .str "Y"
  | .l2 => .str "S"
  | .l3 => .str "H"
  | .l4 => .str "Z9"
  | .l5 => .str "A10"
  | .l6 => .int (0)
  | .l7 => .int (1)
  | .l8 => .int (-1)
  | .l9 => .int (999)
  | .l10 => .int (-999)
  | .l11 => .int (1000)
  | .l12 => .int (-1000)
  | .l13 => .int (1000000000000)
  | .l14 => .int (7)
  | .l15 => .str "x"
  | .l16 => .str ""
  | .l17 => .str "X100"
  | .l18 => .str "Xy"
  | .l19 => .str "*S"
  | .l20 => .str "*"
  | .l21 => .str "X*"
  | .l22 => .str "1"
  | .l23 => .str "*T"
  | .l24 => .str "*T1"
  | .l25 => .non
  | .l26 => .bl true
  | .l27 => .bl false
  | .l28 => .lst []
  | .l29 => .tup []
  | .l30 => .dic [] []
  | .l31 => .tup [.str "f"]
  | .l32 => .lst [.str "f", .tup []]
  | .l33 => .tup [.str "f", .tup [], .tup []]
def lfK : Lf → Nat
  | .l0 => 1
  | .l1 => 1
  | .l2 => 1
  | .l3 => 1
  | .l4 => 1
  | .l5 => 1
  | .l6 => 0
  | .l7 => 0
  | .l8 => 0
  | .l9 => 0
  | .l10 => 0
  | .l11 => 0
  | .l12 => 0
  | .l13 => 0
  | .l14 => 0
  | .l15 => 3
  | .l16 => 3
  | .l17 => 3
  | .l18 => 3
  | .l19 => 2
  | .l20 => 3
  | .l21 => 3
  | .l22 => 3
  | .l23 => 2
  | .l24 => 2
  | .l25 => 3
  | .l26 => 3
  | .l27 => 3
  | .l28 => 3
  | .l29 => 3
  | .l30 => 3
  | .l31 => 3
  | .l32 => 3
  | .l33 => 3
def lfR : Lf → PySem.Str
  | .l0 => ""
  | .l1 => ""
  | .l2 => ""
  | .l3 => ""
  | .l4 => ""
  | .l5 => ""
  | .l6 => ""
  | .l7 => ""
  | .l8 => ""
  | .l9 => ""
  | .l10 => ""
  | .l11 => ""
  | .l12 => ""
  | .l13 => ""
  | .l14 => ""
  | .l15 => ""
  | .l16 => ""
  | .l17 => ""
  | .l18 => ""
  | .l19 => "S"
  | .l20 => ""
  | .l21 => ""
  | .l22 => ""
  | .l23 => "T"
  | .l24 => "T1"
  | .l25 => ""
  | .l26 => ""
  | .l27 => ""
  | .l28 => ""
  | .l29 => ""
  | .l30 => ""
  | .l31 => ""
  | .l32 => ""
  | .l33 => ""
def lfStar : Lf → Bool
  | .l0 => false
  | .l1 => false
  | .l2 => false
  | .l3 => false
  | .l4 => false
  | .l5 => false
  | .l6 => false
  | .l7 => false
  | .l8 => false
  | .l9 => false
  | .l10 => false
  | .l11 => false
  | .l12 => false
  | .l13 => false
  | .l14 => false
  | .l15 => false
  | .l16 => false
  | .l17 => false
  | .l18 => false
  | .l19 => true
  | .l20 => true
  | .l21 => false
  | .l22 => false
  | .l23 => true
  | .l24 => true
  | .l25 => false
  | .l26 => false
  | .l27 => false
  | .l28 => false
  | .l29 => false
  | .l30 => false
  | .l31 => false
  | .l32 => false
  | .l33 => false
def lfIsS : Lf → Bool
  | .l0 => true
  | .l1 => true
  | .l2 => true
  | .l3 => true
  | .l4 => true
  | .l5 => true
  | .l6 => false
  | .l7 => false
  | .l8 => false
  | .l9 => false
  | .l10 => false
  | .l11 => false
  | .l12 => false
  | .l13 => false
  | .l14 => false
  | .l15 => true
  | .l16 => true
  | .l17 => true
  | .l18 => true
  | .l19 => true
  | .l20 => true
  | .l21 => true
  | .l22 => true
  | .l23 => true
  | .l24 => true
  | .l25 => false
  | .l26 => false
  | .l27 => false
  | .l28 => false
  | .l29 => false
  | .l30 => false
  | .l31 => false
  | .l32 => false
  | .l33 => false
def lfS : Lf → PySem.Str
  | .l0 => "X"
  | .l1 => "Y"
  | .l2 => "S"
  | .l3 => "H"
  | .l4 => "Z9"
  | .l5 => "A10"
  | .l6 => ""
  | .l7 => ""
  | .l8 => ""
  | .l9 => ""
  | .l10 => ""
  | .l11 => ""
  | .l12 => ""
  | .l13 => ""
  | .l14 => ""
  | .l15 => "x"
  | .l16 => ""
  | .l17 => "X100"
  | .l18 => "Xy"
  | .l19 => "*S"
  | .l20 => "*"
  | .l21 => "X*"
  | .l22 => "1"
  | .l23 => "*T"
  | .l24 => "*T1"
  | .l25 => ""
  | .l26 => ""
  | .l27 => ""
  | .l28 => ""
  | .l29 => ""
  | .l30 => ""
  | .l31 => ""
  | .l32 => ""
  | .l33 => ""
def lfI : Lf → Int
  | .l0 => 0
  | .l1 => 0
  | .l2 => 0
  | .l3 => 0
  | .l4 => 0
  | .l5 => 0
  | .l6 => 0
  | .l7 => 1
  | .l8 => -1
  | .l9 => 999
  | .l10 => -999
  | .l11 => 1000
  | .l12 => -1000
  | .l13 => 1000000000000
  | .l14 => 7
  | .l15 => 0
  | .l16 => 0
  | .l17 => 0
  | .l18 => 0
  | .l19 => 0
  | .l20 => 0
  | .l21 => 0
  | .l22 => 0
  | .l23 => 0
  | .l24 => 0
  | .l25 => 0
  | .l26 => 0
  | .l27 => 0
  | .l28 => 0
  | .l29 => 0
  | .l30 => 0
  | .l31 => 0
  | .l32 => 0
  | .l33 => 0
def hdD : Hd → D
  | .h0 => .str "a"
  | .h1 => .str "int"
  | .h2 => .str "zz"
  | .h3 => .str "zz0"
  | .h4 => .str "z"
  | .h5 => .str "abcdefgh"
  | .h6 => .str "a1"
  | .h7 => .str "f"
  | .h8 => .str "g"
  | .h9 => .str "zz1"
  | .h10 => .str "p"
  | .h11 => .str "H"
  | .h12 => .str "K2"
  | .h13 => .str "F1g"
  | .h14 => .str ""
  | .h15 => .str "abcdefghi"
  | .h16 => .str "zZ"
  | .h17 => .str "Hh"
  | .h18 => .str "aB"
  | .h19 => .non
  | .h20 => .int (3)
  | .h21 => .int (1)
def hdK : Hd → Nat
  | .h0 => 1
  | .h1 => 1
  | .h2 => 1
  | .h3 => 1
  | .h4 => 1
  | .h5 => 1
  | .h6 => 1
  | .h7 => 1
  | .h8 => 1
  | .h9 => 1
  | .h10 => 1
  | .h11 => 2
  | .h12 => 2
  | .h13 => 0
  | .h14 => 0
  | .h15 => 0
  | .h16 => 0
  | .h17 => 0
  | .h18 => 0
  | .h19 => 0
  | .h20 => 0
  | .h21 => 0
def hdS : Hd → PySem.Str
  | .h0 => "a"
  | .h1 => "int"
  | .h2 => "zz"
  | .h3 => "zz0"
  | .h4 => "z"
  | .h5 => "abcdefgh"
  | .h6 => "a1"
  | .h7 => "f"
  | .h8 => "g"
  | .h9 => "zz1"
  | .h10 => "p"
  | .h11 => "H"
  | .h12 => "K2"
  | .h13 => "F1g"
  | .h14 => ""
  | .h15 => "abcdefghi"
  | .h16 => "zZ"
  | .h17 => "Hh"
  | .h18 => "aB"
  | .h19 => ""
  | .h20 => ""
  | .h21 => ""
def hdZ : Hd → Bool
  | .h0 => false
  | .h1 => false
  | .h2 => true
  | .h3 => true
  | .h4 => false
  | .h5 => false
  | .h6 => false
  | .h7 => false
  | .h8 => false
  | .h9 => true
  | .h10 => false
  | .h11 => false
  | .h12 => false
  | .h13 => false
  | .h14 => false
  | .h15 => false
  | .h16 => false
  | .h17 => false
  | .h18 => false
  | .h19 => false
  | .h20 => false
  | .h21 => false
section
variable {n : Nat} {μ : Sto}
theorem lf_int : ∀ x : Lf, VM.run T (n + 1) 0 [.dat (lfD x)] μ = .ok (.dat (.bl (lfK x == 0))) μ
  | .l0 => pure_of (by kernel_rfl)
  | .l1 => pure_of (by kernel_rfl)
  | .l2 => pure_of (by kernel_rfl)
  | .l3 => pure_of (by kernel_rfl)
  | .l4 => pure_of (by kernel_rfl)
  | .l5 => pure_of (by kernel_rfl)
  | .l6 => pure_of (by kernel_rfl)
  | .l7 => pure_of (by kernel_rfl)
  | .l8 => pure_of (by kernel_rfl)
  | .l9 => pure_of (by kernel_rfl)
  | .l10 => pure_of (by kernel_rfl)
  | .l11 => pure_of (by kernel_rfl)
  | .l12 => pure_of (by kernel_rfl)
  | .l13 => pure_of (by kernel_rfl)
  | .l14 => pure_of (by kernel_rfl)
  | .l15 => pure_of (by kernel_rfl)
  | .l16 => pure_of (by kernel_rfl)
  | .l17 => pure_of (by kernel_rfl)
  | .l18 => pure_of (by kernel_rfl)
  | .l19 => pure_of (by kernel_rfl)
  | .l20 => pure_of (by kernel_rfl)
  | .l21 => pure_of (by kernel_rfl)
  | .l22 => pure_of (by kernel_rfl)
  | .l23 => pure_of (by kernel_rfl)
  | .l24 => pure_of (by kernel_rfl)
  | .l25 => pure_of (by kernel_rfl)
  | .l26 => pure_of (by kernel_rfl)
  | .l27 => pure_of (by kernel_rfl)
  | .l28 => pure_of (by kernel_rfl)
  | .l29 => pure_of (by kernel_rfl)
  | .l30 => pure_of (by kernel_rfl)
  | .l31 => pure_of (by kernel_rfl)
  | .l32 => pure_of (by kernel_rfl)
  | .l33 => pure_of (by kernel_rfl)
theorem lf_var : ∀ x : Lf, VM.run T (n + 1) 2 [.dat (lfD x)] μ = .ok (.dat (.bl (lfK x == 1))) μ
  | .l0 => pure_of (by kernel_rfl)
  | .l1 => pure_of (by kernel_rfl)
  | .l2 => pure_of (by kernel_rfl)
  | .l3 => pure_of (by kernel_rfl)
  | .l4 => pure_of (by kernel_rfl)
  | .l5 => pure_of (by kernel_rfl)
  | .l6 => pure_of (by kernel_rfl)
  | .l7 => pure_of (by kernel_rfl)
  | .l8 => pure_of (by kernel_rfl)
  | .l9 => pure_of (by kernel_rfl)
  | .l10 => pure_of (by kernel_rfl)
  | .l11 => pure_of (by kernel_rfl)
  | .l12 => pure_of (by kernel_rfl)
  | .l13 => pure_of (by kernel_rfl)
  | .l14 => pure_of (by kernel_rfl)
  | .l15 => pure_of (by kernel_rfl)
  | .l16 => pure_of (by kernel_rfl)
  | .l17 => pure_of (by kernel_rfl)
  | .l18 => pure_of (by kernel_rfl)
  | .l19 => pure_of (by kernel_rfl)
  | .l20 => pure_of (by kernel_rfl)
  | .l21 => pure_of (by kernel_rfl)
  | .l22 => pure_of (by kernel_rfl)
  | .l23 => pure_of (by kernel_rfl)
  | .l24 => pure_of (by kernel_rfl)
  | .l25 => pure_of (by kernel_rfl)
  | .l26 => pure_of (by kernel_rfl)
  | .l27 => pure_of (by kernel_rfl)
  | .l28 => pure_of (by kernel_rfl)
  | .l29 => pure_of (by kernel_rfl)
  | .l30 => pure_of (by kernel_rfl)
  | .l31 => pure_of (by kernel_rfl)
  | .l32 => pure_of (by kernel_rfl)
  | .l33 => pure_of (by kernel_rfl)
theorem lf_rest : ∀ x : Lf, VM.run T (n + 2) 4 [.dat (lfD x)] μ = .ok (.dat (.bl (lfK x == 2))) μ
  | .l0 => pure_of (by kernel_rfl)
  | .l1 => pure_of (by kernel_rfl)
  | .l2 => pure_of (by kernel_rfl)
  | .l3 => pure_of (by kernel_rfl)
  | .l4 => pure_of (by kernel_rfl)
  | .l5 => pure_of (by kernel_rfl)
  | .l6 => pure_of (by kernel_rfl)
  | .l7 => pure_of (by kernel_rfl)
  | .l8 => pure_of (by kernel_rfl)
  | .l9 => pure_of (by kernel_rfl)
  | .l10 => pure_of (by kernel_rfl)
  | .l11 => pure_of (by kernel_rfl)
  | .l12 => pure_of (by kernel_rfl)
  | .l13 => pure_of (by kernel_rfl)
  | .l14 => pure_of (by kernel_rfl)
  | .l15 => pure_of (by kernel_rfl)
  | .l16 => pure_of (by kernel_rfl)
  | .l17 => pure_of (by kernel_rfl)
  | .l18 => pure_of (by kernel_rfl)
  | .l19 => pure2 (by kernel_rfl)
  | .l20 => pure2 (by kernel_rfl)
  | .l21 => pure_of (by kernel_rfl)
  | .l22 => pure_of (by kernel_rfl)
  | .l23 => pure2 (by kernel_rfl)
  | .l24 => pure2 (by kernel_rfl)
  | .l25 => pure_of (by kernel_rfl)
  | .l26 => pure_of (by kernel_rfl)
  | .l27 => pure_of (by kernel_rfl)
  | .l28 => pure_of (by kernel_rfl)
  | .l29 => pure_of (by kernel_rfl)
  | .l30 => pure_of (by kernel_rfl)
  | .l31 => pure_of (by kernel_rfl)
  | .l32 => pure_of (by kernel_rfl)
  | .l33 => pure_of (by kernel_rfl)
theorem lf_app : ∀ x : Lf, VM.run T (n + 1) 5 [.dat (lfD x)] μ = .ok (.dat (.bl false)) μ
  | .l0 => pure_of (by kernel_rfl)
  | .l1 => pure_of (by kernel_rfl)
  | .l2 => pure_of (by kernel_rfl)
  | .l3 => pure_of (by kernel_rfl)
  | .l4 => pure_of (by kernel_rfl)
  | .l5 => pure_of (by kernel_rfl)
  | .l6 => pure_of (by kernel_rfl)
  | .l7 => pure_of (by kernel_rfl)
  | .l8 => pure_of (by kernel_rfl)
  | .l9 => pure_of (by kernel_rfl)
  | .l10 => pure_of (by kernel_rfl)
  | .l11 => pure_of (by kernel_rfl)
  | .l12 => pure_of (by kernel_rfl)
  | .l13 => pure_of (by kernel_rfl)
  | .l14 => pure_of (by kernel_rfl)
  | .l15 => pure_of (by kernel_rfl)
  | .l16 => pure_of (by kernel_rfl)
  | .l17 => pure_of (by kernel_rfl)
  | .l18 => pure_of (by kernel_rfl)
  | .l19 => pure_of (by kernel_rfl)
  | .l20 => pure_of (by kernel_rfl)
  | .l21 => pure_of (by kernel_rfl)
  | .l22 => pure_of (by kernel_rfl)
  | .l23 => pure_of (by kernel_rfl)
  | .l24 => pure_of (by kernel_rfl)
  | .l25 => pure_of (by kernel_rfl)
  | .l26 => pure_of (by kernel_rfl)
  | .l27 => pure_of (by kernel_rfl)
  | .l28 => pure_of (by kernel_rfl)
  | .l29 => pure_of (by kernel_rfl)
  | .l30 => pure_of (by kernel_rfl)
  | .l31 => pure_of (by kernel_rfl)
  | .l32 => pure_of (by kernel_rfl)
  | .l33 => pure_of (by kernel_rfl)
theorem ll_int : ∀ x : Lf, VM.run T (n + 1) 20 [.dat (lfD x)] μ = .ok (.dat (.bl (lfK x == 0))) μ
  | .l0 => pure_of (by kernel_rfl)
  | .l1 => pure_of (by kernel_rfl)
  | .l2 => pure_of (by kernel_rfl)
  | .l3 => pure_of (by kernel_rfl)
  | .l4 => pure_of (by kernel_rfl)
  | .l5 => pure_of (by kernel_rfl)
  | .l6 => pure_of (by kernel_rfl)
  | .l7 => pure_of (by kernel_rfl)
  | .l8 => pure_of (by kernel_rfl)
  | .l9 => pure_of (by kernel_rfl)
  | .l10 => pure_of (by kernel_rfl)
  | .l11 => pure_of (by kernel_rfl)
  | .l12 => pure_of (by kernel_rfl)
  | .l13 => pure_of (by kernel_rfl)
  | .l14 => pure_of (by kernel_rfl)
  | .l15 => pure_of (by kernel_rfl)
  | .l16 => pure_of (by kernel_rfl)
  | .l17 => pure_of (by kernel_rfl)
  | .l18 => pure_of (by kernel_rfl)
  | .l19 => pure_of (by kernel_rfl)
  | .l20 => pure_of (by kernel_rfl)
  | .l21 => pure_of (by kernel_rfl)
  | .l22 => pure_of (by kernel_rfl)
  | .l23 => pure_of (by kernel_rfl)
  | .l24 => pure_of (by kernel_rfl)
  | .l25 => pure_of (by kernel_rfl)
  | .l26 => pure_of (by kernel_rfl)
  | .l27 => pure_of (by kernel_rfl)
  | .l28 => pure_of (by kernel_rfl)
  | .l29 => pure_of (by kernel_rfl)
  | .l30 => pure_of (by kernel_rfl)
  | .l31 => pure_of (by kernel_rfl)
  | .l32 => pure_of (by kernel_rfl)
  | .l33 => pure_of (by kernel_rfl)
theorem ll_var : ∀ x : Lf, VM.run T (n + 2) 19 [.dat (lfD x)] μ = .ok (.dat (.bl (lfK x == 1))) μ
  | .l0 => pure2 (by kernel_rfl)
  | .l1 => pure2 (by kernel_rfl)
  | .l2 => pure2 (by kernel_rfl)
  | .l3 => pure2 (by kernel_rfl)
  | .l4 => pure2 (by kernel_rfl)
  | .l5 => pure2 (by kernel_rfl)
  | .l6 => pure_of (by kernel_rfl)
  | .l7 => pure_of (by kernel_rfl)
  | .l8 => pure_of (by kernel_rfl)
  | .l9 => pure_of (by kernel_rfl)
  | .l10 => pure_of (by kernel_rfl)
  | .l11 => pure_of (by kernel_rfl)
  | .l12 => pure_of (by kernel_rfl)
  | .l13 => pure_of (by kernel_rfl)
  | .l14 => pure_of (by kernel_rfl)
  | .l15 => pure_of (by kernel_rfl)
  | .l16 => pure_of (by kernel_rfl)
  | .l17 => pure_of (by kernel_rfl)
  | .l18 => pure2 (by kernel_rfl)
  | .l19 => pure_of (by kernel_rfl)
  | .l20 => pure_of (by kernel_rfl)
  | .l21 => pure2 (by kernel_rfl)
  | .l22 => pure_of (by kernel_rfl)
  | .l23 => pure_of (by kernel_rfl)
  | .l24 => pure_of (by kernel_rfl)
  | .l25 => pure_of (by kernel_rfl)
  | .l26 => pure_of (by kernel_rfl)
  | .l27 => pure_of (by kernel_rfl)
  | .l28 => pure_of (by kernel_rfl)
  | .l29 => pure_of (by kernel_rfl)
  | .l30 => pure_of (by kernel_rfl)
  | .l31 => pure_of (by kernel_rfl)
  | .l32 => pure_of (by kernel_rfl)
  | .l33 => pure_of (by kernel_rfl)
theorem ll_rv : ∀ x : Lf, lfStar x = true → VM.run T (n + 2) 19 [.dat (.str (lfR x))] μ = .ok (.dat (.bl (lfK x == 2))) μ
  | .l0 => fun h => absurd h (by decide)
  | .l1 => fun h => absurd h (by decide)
  | .l2 => fun h => absurd h (by decide)
  | .l3 => fun h => absurd h (by decide)
  | .l4 => fun h => absurd h (by decide)
  | .l5 => fun h => absurd h (by decide)
  | .l6 => fun h => absurd h (by decide)
  | .l7 => fun h => absurd h (by decide)
  | .l8 => fun h => absurd h (by decide)
  | .l9 => fun h => absurd h (by decide)
  | .l10 => fun h => absurd h (by decide)
  | .l11 => fun h => absurd h (by decide)
  | .l12 => fun h => absurd h (by decide)
  | .l13 => fun h => absurd h (by decide)
  | .l14 => fun h => absurd h (by decide)
  | .l15 => fun h => absurd h (by decide)
  | .l16 => fun h => absurd h (by decide)
  | .l17 => fun h => absurd h (by decide)
  | .l18 => fun h => absurd h (by decide)
  | .l19 => fun _ => pure2 (by kernel_rfl)
  | .l20 => fun _ => pure_of (by kernel_rfl)
  | .l21 => fun h => absurd h (by decide)
  | .l22 => fun h => absurd h (by decide)
  | .l23 => fun _ => pure2 (by kernel_rfl)
  | .l24 => fun _ => pure2 (by kernel_rfl)
  | .l25 => fun h => absurd h (by decide)
  | .l26 => fun h => absurd h (by decide)
  | .l27 => fun h => absurd h (by decide)
  | .l28 => fun h => absurd h (by decide)
  | .l29 => fun h => absurd h (by decide)
  | .l30 => fun h => absurd h (by decide)
  | .l31 => fun h => absurd h (by decide)
  | .l32 => fun h => absurd h (by decide)
  | .l33 => fun h => absurd h (by decide)
theorem hd_name : ∀ x : Hd, VM.run T (n + 1) 1 [.dat (hdD x)] μ = .ok (.dat (.bl (hdK x == 1))) μ
  | .h0 => pure_of (by kernel_rfl)
  | .h1 => pure_of (by kernel_rfl)
  | .h2 => pure_of (by kernel_rfl)
  | .h3 => pure_of (by kernel_rfl)
  | .h4 => pure_of (by kernel_rfl)
  | .h5 => pure_of (by kernel_rfl)
  | .h6 => pure_of (by kernel_rfl)
  | .h7 => pure_of (by kernel_rfl)
  | .h8 => pure_of (by kernel_rfl)
  | .h9 => pure_of (by kernel_rfl)
  | .h10 => pure_of (by kernel_rfl)
  | .h11 => pure_of (by kernel_rfl)
  | .h12 => pure_of (by kernel_rfl)
  | .h13 => pure_of (by kernel_rfl)
  | .h14 => pure_of (by kernel_rfl)
  | .h15 => pure_of (by kernel_rfl)
  | .h16 => pure_of (by kernel_rfl)
  | .h17 => pure_of (by kernel_rfl)
  | .h18 => pure_of (by kernel_rfl)
  | .h19 => pure_of (by kernel_rfl)
  | .h20 => pure_of (by kernel_rfl)
  | .h21 => pure_of (by kernel_rfl)
theorem hd_head : ∀ x : Hd, VM.run T (n + 2) 3 [.dat (hdD x)] μ = .ok (.dat (.bl (hdK x != 0))) μ
  | .h0 => pure2 (by kernel_rfl)
  | .h1 => pure2 (by kernel_rfl)
  | .h2 => pure2 (by kernel_rfl)
  | .h3 => pure2 (by kernel_rfl)
  | .h4 => pure2 (by kernel_rfl)
  | .h5 => pure2 (by kernel_rfl)
  | .h6 => pure2 (by kernel_rfl)
  | .h7 => pure2 (by kernel_rfl)
  | .h8 => pure2 (by kernel_rfl)
  | .h9 => pure2 (by kernel_rfl)
  | .h10 => pure2 (by kernel_rfl)
  | .h11 => pure3 (by kernel_rfl)
  | .h12 => pure3 (by kernel_rfl)
  | .h13 => pure3 (by kernel_rfl)
  | .h14 => pure3 (by kernel_rfl)
  | .h15 => pure3 (by kernel_rfl)
  | .h16 => pure3 (by kernel_rfl)
  | .h17 => pure3 (by kernel_rfl)
  | .h18 => pure3 (by kernel_rfl)
  | .h19 => pure3 (by kernel_rfl)
  | .h20 => pure3 (by kernel_rfl)
  | .h21 => pure3 (by kernel_rfl)
theorem hd_var : ∀ x : Hd, VM.run T (n + 1) 2 [.dat (hdD x)] μ = .ok (.dat (.bl (hdK x == 2))) μ
  | .h0 => pure_of (by kernel_rfl)
  | .h1 => pure_of (by kernel_rfl)
  | .h2 => pure_of (by kernel_rfl)
  | .h3 => pure_of (by kernel_rfl)
  | .h4 => pure_of (by kernel_rfl)
  | .h5 => pure_of (by kernel_rfl)
  | .h6 => pure_of (by kernel_rfl)
  | .h7 => pure_of (by kernel_rfl)
  | .h8 => pure_of (by kernel_rfl)
  | .h9 => pure_of (by kernel_rfl)
  | .h10 => pure_of (by kernel_rfl)
  | .h11 => pure_of (by kernel_rfl)
  | .h12 => pure_of (by kernel_rfl)
  | .h13 => pure_of (by kernel_rfl)
  | .h14 => pure_of (by kernel_rfl)
  | .h15 => pure_of (by kernel_rfl)
  | .h16 => pure_of (by kernel_rfl)
  | .h17 => pure_of (by kernel_rfl)
  | .h18 => pure_of (by kernel_rfl)
  | .h19 => pure_of (by kernel_rfl)
  | .h20 => pure_of (by kernel_rfl)
  | .h21 => pure_of (by kernel_rfl)
theorem hl_name : ∀ x : Hd, VM.run T (n + 2) 18 [.dat (hdD x)] μ = .ok (.dat (.bl (hdK x == 1))) μ
  | .h0 => pure2 (by kernel_rfl)
  | .h1 => pure2 (by kernel_rfl)
  | .h2 => pure2 (by kernel_rfl)
  | .h3 => pure2 (by kernel_rfl)
  | .h4 => pure2 (by kernel_rfl)
  | .h5 => pure2 (by kernel_rfl)
  | .h6 => pure2 (by kernel_rfl)
  | .h7 => pure2 (by kernel_rfl)
  | .h8 => pure2 (by kernel_rfl)
  | .h9 => pure2 (by kernel_rfl)
  | .h10 => pure2 (by kernel_rfl)
  | .h11 => pure_of (by kernel_rfl)
  | .h12 => pure_of (by kernel_rfl)
  | .h13 => pure_of (by kernel_rfl)
  | .h14 => pure_of (by kernel_rfl)
  | .h15 => pure_of (by kernel_rfl)
  | .h16 => pure2 (by kernel_rfl)
  | .h17 => pure_of (by kernel_rfl)
  | .h18 => pure2 (by kernel_rfl)
  | .h19 => pure_of (by kernel_rfl)
  | .h20 => pure_of (by kernel_rfl)
  | .h21 => pure_of (by kernel_rfl)
theorem hl_var : ∀ x : Hd, VM.run T (n + 2) 19 [.dat (hdD x)] μ = .ok (.dat (.bl (hdK x == 2))) μ
  | .h0 => pure_of (by kernel_rfl)
  | .h1 => pure_of (by kernel_rfl)
  | .h2 => pure_of (by kernel_rfl)
  | .h3 => pure_of (by kernel_rfl)
  | .h4 => pure_of (by kernel_rfl)
  | .h5 => pure_of (by kernel_rfl)
  | .h6 => pure_of (by kernel_rfl)
  | .h7 => pure_of (by kernel_rfl)
  | .h8 => pure_of (by kernel_rfl)
  | .h9 => pure_of (by kernel_rfl)
  | .h10 => pure_of (by kernel_rfl)
  | .h11 => pure2 (by kernel_rfl)
  | .h12 => pure2 (by kernel_rfl)
  | .h13 => pure2 (by kernel_rfl)
  | .h14 => pure_of (by kernel_rfl)
  | .h15 => pure_of (by kernel_rfl)
  | .h16 => pure_of (by kernel_rfl)
  | .h17 => pure2 (by kernel_rfl)
  | .h18 => pure_of (by kernel_rfl)
  | .h19 => pure_of (by kernel_rfl)
  | .h20 => pure_of (by kernel_rfl)
  | .h21 => pure_of (by kernel_rfl)
end
theorem lf_cut : ∀ x : Lf, lfStar x = true → opSl (lfD x) (some 1) none = some (.dat (.str (lfR x)))
  | .l0 => fun h => absurd h (by decide)
  | .l1 => fun h => absurd h (by decide)
  | .l2 => fun h => absurd h (by decide)
  | .l3 => fun h => absurd h (by decide)
  | .l4 => fun h => absurd h (by decide)
  | .l5 => fun h => absurd h (by decide)
  | .l6 => fun h => absurd h (by decide)
  | .l7 => fun h => absurd h (by decide)
  | .l8 => fun h => absurd h (by decide)
  | .l9 => fun h => absurd h (by decide)
  | .l10 => fun h => absurd h (by decide)
  | .l11 => fun h => absurd h (by decide)
  | .l12 => fun h => absurd h (by decide)
  | .l13 => fun h => absurd h (by decide)
  | .l14 => fun h => absurd h (by decide)
  | .l15 => fun h => absurd h (by decide)
  | .l16 => fun h => absurd h (by decide)
  | .l17 => fun h => absurd h (by decide)
  | .l18 => fun h => absurd h (by decide)
  | .l19 => fun _ => by kernel_rfl
  | .l20 => fun _ => by kernel_rfl
  | .l21 => fun h => absurd h (by decide)
  | .l22 => fun h => absurd h (by decide)
  | .l23 => fun _ => by kernel_rfl
  | .l24 => fun _ => by kernel_rfl
  | .l25 => fun h => absurd h (by decide)
  | .l26 => fun h => absurd h (by decide)
  | .l27 => fun h => absurd h (by decide)
  | .l28 => fun h => absurd h (by decide)
  | .l29 => fun h => absurd h (by decide)
  | .l30 => fun h => absurd h (by decide)
  | .l31 => fun h => absurd h (by decide)
  | .l32 => fun h => absurd h (by decide)
  | .l33 => fun h => absurd h (by decide)
theorem lf_cut1 : ∀ x : Lf, lfIsS x = true → ∃ y : PySem.Str, opSl (lfD x) none (some 1) = some (.dat (.str y)) ∧ opEq (.str y) (.str "*") = some (lfStar x)
  | .l0 => fun _ => ⟨"X", by kernel_rfl, by kernel_rfl⟩
  | .l1 => fun _ => ⟨"Y", by kernel_rfl, by kernel_rfl⟩
  | .l2 => fun _ => ⟨"S", by kernel_rfl, by kernel_rfl⟩
  | .l3 => fun _ => ⟨"H", by kernel_rfl, by kernel_rfl⟩
  | .l4 => fun _ => ⟨"Z", by kernel_rfl, by kernel_rfl⟩
  | .l5 => fun _ => ⟨"A", by kernel_rfl, by kernel_rfl⟩
  | .l6 => fun h => absurd h (by decide)
  | .l7 => fun h => absurd h (by decide)
  | .l8 => fun h => absurd h (by decide)
  | .l9 => fun h => absurd h (by decide)
  | .l10 => fun h => absurd h (by decide)
  | .l11 => fun h => absurd h (by decide)
  | .l12 => fun h => absurd h (by decide)
  | .l13 => fun h => absurd h (by decide)
  | .l14 => fun h => absurd h (by decide)
  | .l15 => fun _ => ⟨"x", by kernel_rfl, by kernel_rfl⟩
  | .l16 => fun _ => ⟨"", by kernel_rfl, by kernel_rfl⟩
  | .l17 => fun _ => ⟨"X", by kernel_rfl, by kernel_rfl⟩
  | .l18 => fun _ => ⟨"X", by kernel_rfl, by kernel_rfl⟩
  | .l19 => fun _ => ⟨"*", by kernel_rfl, by kernel_rfl⟩
  | .l20 => fun _ => ⟨"*", by kernel_rfl, by kernel_rfl⟩
  | .l21 => fun _ => ⟨"X", by kernel_rfl, by kernel_rfl⟩
  | .l22 => fun _ => ⟨"1", by kernel_rfl, by kernel_rfl⟩
  | .l23 => fun _ => ⟨"*", by kernel_rfl, by kernel_rfl⟩
  | .l24 => fun _ => ⟨"*", by kernel_rfl, by kernel_rfl⟩
  | .l25 => fun h => absurd h (by decide)
  | .l26 => fun h => absurd h (by decide)
  | .l27 => fun h => absurd h (by decide)
  | .l28 => fun h => absurd h (by decide)
  | .l29 => fun h => absurd h (by decide)
  | .l30 => fun h => absurd h (by decide)
  | .l31 => fun h => absurd h (by decide)
  | .l32 => fun h => absurd h (by decide)
  | .l33 => fun h => absurd h (by decide)
theorem lf_isS (x : Lf) : isi .str (lfD x) = lfIsS x := by cases x <;> rfl
theorem star_k (x : Lf) : (lfStar x = true → lfIsS x = true ∧ lfK x ≠ 0 ∧ lfK x ≠ 1) ∧ (lfK x = 2 → lfStar x = true) := by cases x <;> decide
theorem hd_cut : ∀ x : Hd, hdK x = 1 → ∃ y : PySem.Str, opSl (.str (hdS x)) none (some 2) = some (.dat (.str y)) ∧ opCmp .Eq (.str y) (.str "zz") = some (hdZ x) ∧ opCmp .NotEq (.str y) (.str "zz") = some (!hdZ x)
  | .h0 => fun _ => ⟨"a", by kernel_rfl, by kernel_rfl, by kernel_rfl⟩
  | .h1 => fun _ => ⟨"in", by kernel_rfl, by kernel_rfl, by kernel_rfl⟩
  | .h2 => fun _ => ⟨"zz", by kernel_rfl, by kernel_rfl, by kernel_rfl⟩
  | .h3 => fun _ => ⟨"zz", by kernel_rfl, by kernel_rfl, by kernel_rfl⟩
  | .h4 => fun _ => ⟨"z", by kernel_rfl, by kernel_rfl, by kernel_rfl⟩
  | .h5 => fun _ => ⟨"ab", by kernel_rfl, by kernel_rfl, by kernel_rfl⟩
  | .h6 => fun _ => ⟨"a1", by kernel_rfl, by kernel_rfl, by kernel_rfl⟩
  | .h7 => fun _ => ⟨"f", by kernel_rfl, by kernel_rfl, by kernel_rfl⟩
  | .h8 => fun _ => ⟨"g", by kernel_rfl, by kernel_rfl, by kernel_rfl⟩
  | .h9 => fun _ => ⟨"zz", by kernel_rfl, by kernel_rfl, by kernel_rfl⟩
  | .h10 => fun _ => ⟨"p", by kernel_rfl, by kernel_rfl, by kernel_rfl⟩
  | .h11 => fun h => absurd h (by decide)
  | .h12 => fun h => absurd h (by decide)
  | .h13 => fun h => absurd h (by decide)
  | .h14 => fun h => absurd h (by decide)
  | .h15 => fun h => absurd h (by decide)
  | .h16 => fun h => absurd h (by decide)
  | .h17 => fun h => absurd h (by decide)
  | .h18 => fun h => absurd h (by decide)
  | .h19 => fun h => absurd h (by decide)
  | .h20 => fun h => absurd h (by decide)
  | .h21 => fun h => absurd h (by decide)
theorem lf_num : ∀ x : Lf, lfK x = 0 → lfD x = .int (lfI x)
  | .l0 => fun h => absurd h (by decide)
  | .l1 => fun h => absurd h (by decide)
  | .l2 => fun h => absurd h (by decide)
  | .l3 => fun h => absurd h (by decide)
  | .l4 => fun h => absurd h (by decide)
  | .l5 => fun h => absurd h (by decide)
  | .l6 => fun _ => rfl
  | .l7 => fun _ => rfl
  | .l8 => fun _ => rfl
  | .l9 => fun _ => rfl
  | .l10 => fun _ => rfl
  | .l11 => fun _ => rfl
  | .l12 => fun _ => rfl
  | .l13 => fun _ => rfl
  | .l14 => fun _ => rfl
  | .l15 => fun h => absurd h (by decide)
  | .l16 => fun h => absurd h (by decide)
  | .l17 => fun h => absurd h (by decide)
  | .l18 => fun h => absurd h (by decide)
  | .l19 => fun h => absurd h (by decide)
  | .l20 => fun h => absurd h (by decide)
  | .l21 => fun h => absurd h (by decide)
  | .l22 => fun h => absurd h (by decide)
  | .l23 => fun h => absurd h (by decide)
  | .l24 => fun h => absurd h (by decide)
  | .l25 => fun h => absurd h (by decide)
  | .l26 => fun h => absurd h (by decide)
  | .l27 => fun h => absurd h (by decide)
  | .l28 => fun h => absurd h (by decide)
  | .l29 => fun h => absurd h (by decide)
  | .l30 => fun h => absurd h (by decide)
  | .l31 => fun h => absurd h (by decide)
  | .l32 => fun h => absurd h (by decide)
  | .l33 => fun h => absurd h (by decide)
theorem lf_str : ∀ x : Lf, lfK x = 1 ∨ lfK x = 2 → lfD x = .str (lfS x)
  | .l0 => fun _ => rfl
  | .l1 => fun _ => rfl
  | .l2 => fun _ => rfl
  | .l3 => fun _ => rfl
  | .l4 => fun _ => rfl
  | .l5 => fun _ => rfl
  | .l6 => fun h => absurd h (by decide)
  | .l7 => fun h => absurd h (by decide)
  | .l8 => fun h => absurd h (by decide)
  | .l9 => fun h => absurd h (by decide)
  | .l10 => fun h => absurd h (by decide)
  | .l11 => fun h => absurd h (by decide)
  | .l12 => fun h => absurd h (by decide)
  | .l13 => fun h => absurd h (by decide)
  | .l14 => fun h => absurd h (by decide)
  | .l15 => fun h => absurd h (by decide)
  | .l16 => fun h => absurd h (by decide)
  | .l17 => fun h => absurd h (by decide)
  | .l18 => fun h => absurd h (by decide)
  | .l19 => fun _ => rfl
  | .l20 => fun h => absurd h (by decide)
  | .l21 => fun h => absurd h (by decide)
  | .l22 => fun h => absurd h (by decide)
  | .l23 => fun _ => rfl
  | .l24 => fun _ => rfl
  | .l25 => fun h => absurd h (by decide)
  | .l26 => fun h => absurd h (by decide)
  | .l27 => fun h => absurd h (by decide)
  | .l28 => fun h => absurd h (by decide)
  | .l29 => fun h => absurd h (by decide)
  | .l30 => fun h => absurd h (by decide)
  | .l31 => fun h => absurd h (by decide)
  | .l32 => fun h => absurd h (by decide)
  | .l33 => fun h => absurd h (by decide)
theorem hd_str : ∀ x : Hd, hdK x ≠ 0 → hdD x = .str (hdS x)
  | .h0 => fun _ => rfl
  | .h1 => fun _ => rfl
  | .h2 => fun _ => rfl
  | .h3 => fun _ => rfl
  | .h4 => fun _ => rfl
  | .h5 => fun _ => rfl
  | .h6 => fun _ => rfl
  | .h7 => fun _ => rfl
  | .h8 => fun _ => rfl
  | .h9 => fun _ => rfl
  | .h10 => fun _ => rfl
  | .h11 => fun _ => rfl
  | .h12 => fun _ => rfl
  | .h13 => fun h => absurd rfl h
  | .h14 => fun h => absurd rfl h
  | .h15 => fun h => absurd rfl h
  | .h16 => fun h => absurd rfl h
  | .h17 => fun h => absurd rfl h
  | .h18 => fun h => absurd rfl h
  | .h19 => fun h => absurd rfl h
  | .h20 => fun h => absurd rfl h
  | .h21 => fun h => absurd rfl h
theorem lfK_all (x : Lf) : lfK x = 0 ∨ lfK x = 1 ∨ lfK x = 2 ∨ lfK x = 3 := by cases x <;> decide
theorem hdK_all (x : Hd) : hdK x = 0 ∨ hdK x = 1 ∨ hdK x = 2 := by cases x <;> decide
end K11
set_option maxHeartbeats 0
/-! k11: values, what stands in them. -/
namespace K11
open VM Law
open L2 (atI ixN)
inductive Sc where
  | tup | lst | non
def isT : Sc → Bool
  | .tup => true
  | _ => false
def secD : Sc → List D → D
  | .tup, l => .tup l
  | .lst, l => .lst l
  | .non, _ => .non
inductive Vl where
  | lf (x : Lf)
  | app (h : Hd) (s : Sc) (as : List Vl)
mutual
def Vl.d : Vl → D
  | .lf x => lfD x
  | .app h s as => .tup [hdD h, secD s (vds as)]
def vds : List Vl → List D
  | [] => []
  | t :: ts => t.d :: vds ts
end
mutual
def sz : Vl → Nat
  | .lf _ => 1
  | .app _ _ as => 1 + szs as
def szs : List Vl → Nat
  | [] => 0
  | t :: ts => sz t + szs ts
end
mutual
def dep : Vl → Nat
  | .lf _ => 1
  | .app _ _ as => 1 + deps as
def deps : List Vl → Nat
  | [] => 0
  | t :: ts => max (dep t) (deps ts)
end
mutual
/-- of a term's form; l: at the end of a row -/
def wf : Bool → Vl → Bool
  | l, .lf x => lfK x == 0 || lfK x == 1 || (l && lfK x == 2)
  | _, .app h s as => hdK h != 0 && isT s && wfs as
def wfs : List Vl → Bool
  | [] => true
  | t :: ts => wf ts.isEmpty t && wfs ts
end
def sn : Fin 5 → PySem.Str
  | 0 => "number" | 1 => "term" | 2 => "name" | 3 => "head" | 4 => "rest"
def inS : Fin 5 → Bool
  | 0 => false | 2 => false | _ => true
structure Ti where
  k : Fin 5
  x : PySem.Str
  i : Int
def Ti.d (t : Ti) : D := .tup [.str (sn t.k), if t.k = 0 then .int t.i else .str t.x]
mutual
/-- what stands where, from the left -/
def th : Vl → List Ti
  | .lf x => if lfK x = 0 then [⟨0, "", lfI x⟩] else if lfK x = 1 then [⟨1, lfS x, 0⟩] else [⟨4, lfR x, 0⟩]
  | .app h _ as => ⟨if hdK h = 1 then 2 else 3, hdS h, 0⟩ :: ths as
def ths : List Vl → List Ti
  | [] => []
  | t :: ts => th t ++ ths ts
end
def stT (t : Vl) : List Ti := (th t).filter fun p => inS p.k
theorem vds_map : ∀ ts : List Vl, vds ts = ts.map Vl.d
  | [] => rfl
  | t :: ts => by unfold vds; rw [vds_map ts]; rfl
theorem vds_len (ts : List Vl) : (vds ts).length = ts.length := by rw [vds_map, List.length_map]
theorem sz_pos : ∀ t : Vl, 1 ≤ sz t
  | .lf _ => by simp [sz]
  | .app _ _ _ => by simp only [sz]; omega
theorem szs_sum : ∀ ts : List Vl, szs ts = (ts.map sz).sum
  | [] => by simp [szs]
  | t :: ts => by simp only [szs, List.map_cons, List.sum_cons]; rw [szs_sum ts]
theorem len_szs : ∀ as : List Vl, as.length ≤ szs as
  | [] => by simp
  | t :: as => by
    have := sz_pos t
    have := len_szs as
    simp only [szs, List.length_cons]; omega
theorem deps_mem : ∀ {ts : List Vl} {t : Vl}, t ∈ ts → dep t ≤ deps ts
  | t' :: ts, t, h => by
    simp only [deps]
    rcases List.mem_cons.mp h with rfl | h
    · omega
    · have := deps_mem h; omega
theorem sum_len {α : Type} {f : α → Nat} (h : ∀ x, 1 ≤ f x) : ∀ L : List α, L.length ≤ (L.map f).sum
  | [] => by simp
  | x :: L => by
    have := h x
    have := sum_len h L
    simp only [List.map_cons, List.sum_cons, List.length_cons]; omega
theorem lim1 {n : Nat} (h : n ≤ 1000) : n ≤ LIM := Nat.le_trans h (by decide)
theorem lim2 {n : Nat} (h : n ≤ 1000) : n < LIM := Nat.lt_of_le_of_lt h (by decide)
theorem ne_nil (l : List D) : opCmp .NotEq (.lst l) (.lst []) = some (!l.isEmpty) := by
  cases l with
  | nil => rfl
  | cons a l =>
    simp only [opCmp, opEq, txEq]
    have h2 : fits 64 (.lst []) = true := by simp [fits, fitsAll]
    by_cases h : fits 64 (.lst (a :: l)) = true
    · rw [if_pos (by rw [h, h2]; rfl)]
      simp [eqv, eqvs]
    · rw [if_neg (by simp [h])]
      simp [lenNe]
theorem eq_nil (l : List D) : opCmp .Eq (.lst l) (.lst []) = some l.isEmpty := by
  have := ne_nil l
  simp only [opCmp] at this ⊢
  cases h : opEq (.lst l) (.lst []) with
  | none => rw [h] at this; cases this
  | some b => rw [h] at this; cases b <;> cases l <;> simp_all
def flg : List Vl → List (Vl × Bool)
  | [] => []
  | t :: ts => (t, ts.isEmpty) :: flg ts
theorem flg_len : ∀ ts : List Vl, (flg ts).length = ts.length
  | [] => rfl
  | t :: ts => by simp only [flg, List.length_cons, flg_len ts]
theorem flg_sz : ∀ ts : List Vl, ((flg ts).map fun q => 2 * sz q.1).sum = 2 * szs ts
  | [] => by simp [szs, flg]
  | t :: ts => by
    simp only [szs, flg, List.map_cons, List.sum_cons]
    rw [flg_sz ts]; omega
theorem flg_wf : ∀ ts : List Vl, (flg ts).all (fun q => wf q.2 q.1) = wfs ts
  | [] => by simp [wfs, flg]
  | t :: ts => by simp only [wfs, flg, List.all_cons, flg_wf ts]
theorem flg_th : ∀ ts : List Vl, ((flg ts).flatMap fun q => stT q.1) = (ths ts).filter fun p => inS p.k
  | [] => by simp [ths, flg]
  | t :: ts => by simp only [ths, flg, List.flatMap_cons, List.filter_append, flg_th ts]; rfl
theorem flg_get : ∀ (ts : List Vl) (j : Nat), (flg ts)[j]? = (ts[j]?).map fun t => (t, decide (j + 1 = ts.length))
  | [], j => by simp [flg]
  | t :: ts, 0 => by
    simp only [flg, List.getElem?_cons_zero, Option.map_some, List.length_cons]
    cases ts <;> simp
  | t :: ts, j + 1 => by
    simp only [flg, List.getElem?_cons_succ, List.length_cons]
    rw [flg_get ts j]
    simp
/-- a waiting list where a bad piece ends all -/
theorem stack_stop {α : Type} (enc : α → D) (out : α → List D) (kids : α → List α) (all : α → List D) (size : α → Nat) (ok1 W : α → Bool) (okρ : Env → Prop) (B : Nat) {c : Env → Sto → Res Bool} {b : Env → Sto → Res SO} {μ : Sto}
    (hall : ∀ x, W x = true → all x = out x ++ (kids x).flatMap all) (hW : ∀ x, W x = (ok1 x && (kids x).all W)) (hsz : ∀ x, 1 + ((kids x).map size).sum ≤ size x) (hout : ∀ x, (out x).length + ((kids x).map size).sum ≤ size x)
    (hc : ∀ ρ Fd L, okρ ρ → c ρ (stk enc μ Fd L) = .ok (!L.isEmpty) (stk enc μ Fd L))
    (hb : ∀ ρ Fd x L, okρ ρ → ok1 x = true → Fd.length + size x + (L.map size).sum ≤ B → ∃ ρ', okρ ρ' ∧ b ρ (stk enc μ Fd (x :: L)) = .ok (.nx ρ') (stk enc μ (Fd ++ out x) (kids x ++ L)))
    (hn : ∀ ρ Fd x L, okρ ρ → ok1 x = false → Fd.length + size x + (L.map size).sum ≤ B → b ρ (stk enc μ Fd (x :: L)) = .ok (.rt (.dat .non)) (stk enc μ Fd L)) :
    ∀ (m fuel : Nat) (ρ : Env) (Fd : List D) (L : List α), okρ ρ → (L.map size).sum ≤ m → m < fuel → Fd.length + (L.map size).sum ≤ B →
      (L.all W = true → ∃ ρ', okρ ρ' ∧ whL c b fuel ρ (stk enc μ Fd L) = .ok (.nx ρ') (stk enc μ (Fd ++ L.flatMap all) [])) ∧
      (L.all W = false → ∃ E, whL c b fuel ρ (stk enc μ Fd L) = .ok (.rt (.dat .non)) (μ ++ E))
  | m, 0, ρ, Fd, L, _, _, hf, _ => by omega
  | m, fuel + 1, ρ, Fd, [], ho, hs, hf, hB => by
    refine ⟨fun _ => ⟨ρ, ho, ?_⟩, fun h => by simp at h⟩
    unfold whL
    rw [hc ρ Fd [] ho]
    simp
  | m, fuel + 1, ρ, Fd, x :: L, ho, hs, hf, hB => by
    rw [List.map_cons, List.sum_cons] at hs hB
    have h1 := hsz x
    have h2 := hout x
    by_cases k1 : ok1 x = true
    · obtain ⟨ρ', ho', e⟩ := hb ρ Fd x L ho k1 (by omega)
      have hm : ((kids x ++ L).map size).sum = ((kids x).map size).sum + (L.map size).sum := by rw [List.map_append, List.sum_append]
      have ih := stack_stop enc out kids all size ok1 W okρ B hall hW hsz hout hc hb hn (m - 1) fuel ρ' (Fd ++ out x) (kids x ++ L) ho' (by rw [hm]; omega) (by omega) (by rw [hm, List.length_append]; omega)
      have hw : (kids x ++ L).all W = (x :: L).all W := by rw [List.all_append, List.all_cons, hW x, k1, Bool.true_and]
      rw [hw] at ih
      have un : whL c b (fuel + 1) ρ (stk enc μ Fd (x :: L)) = whL c b fuel ρ' (stk enc μ (Fd ++ out x) (kids x ++ L)) := by
        conv => lhs; unfold whL
        rw [hc ρ Fd (x :: L) ho]
        simp only [List.isEmpty_cons, Bool.not_false, Res.bind_ok, e]
      rw [un]
      refine ⟨fun h => ?_, ih.2⟩
      obtain ⟨ρ2, ho2, e2⟩ := ih.1 h
      refine ⟨ρ2, ho2, ?_⟩
      have wx : W x = true := by
        rw [List.all_cons, Bool.and_eq_true] at h
        exact h.1
      rw [e2, List.flatMap_append, List.flatMap_cons, hall x wx, List.append_assoc, List.append_assoc]
    · have k0 : ok1 x = false := by simpa using k1
      have e := hn ρ Fd x L ho k0 (by omega)
      refine ⟨fun h => ?_, fun _ => ⟨[⟨true, .lst Fd⟩, ⟨true, .lst (L.map enc).reverse⟩], ?_⟩⟩
      · rw [List.all_cons, hW x, k0] at h
        simp at h
      · unfold whL
        rw [hc ρ Fd (x :: L) ho]
        simp only [List.isEmpty_cons, Bool.not_false, Res.bind_ok, e]
        rfl
end K11
set_option maxHeartbeats 0
/-! k11: standings. -/
namespace K11
open VM Law
open L2 (atI ixN)
def isN : Vl → Bool
  | .lf x => lfK x == 0
  | _ => false
def isV : Vl → Bool
  | .lf x => lfK x == 1
  | _ => false
def isR : Vl → Bool
  | .lf x => lfK x == 2
  | _ => false
def isA : Vl → Bool
  | .app _ _ _ => true
  | _ => false
section
variable {n : Nat} {μ : Sto}
theorem v_int : ∀ t : Vl, VM.run T (n + 1) 0 [.dat t.d] μ = .ok (.dat (.bl (isN t))) μ
  | .lf x => lf_int x
  | .app h s as => pure_of (by kernel_rfl)
theorem v_var : ∀ t : Vl, VM.run T (n + 1) 2 [.dat t.d] μ = .ok (.dat (.bl (isV t))) μ
  | .lf x => lf_var x
  | .app h s as => pure_of (by kernel_rfl)
theorem v_rest : ∀ t : Vl, VM.run T (n + 2) 4 [.dat t.d] μ = .ok (.dat (.bl (isR t))) μ
  | .lf x => lf_rest x
  | .app h s as => pure_of (by kernel_rfl)
theorem v_app : ∀ t : Vl, VM.run T (n + 1) 5 [.dat t.d] μ = .ok (.dat (.bl (isA t))) μ
  | .lf x => lf_app x
  | .app h s as => pure_of (by kernel_rfl)
theorem ix_app0 {h : Hd} {s : Sc} {as : List Vl} : opIx (Vl.app h s as).d (.int 0) = some (.dat (hdD h)) := by simp only [Vl.d]; exact ix0
theorem ix_app1 {h : Hd} {s : Sc} {as : List Vl} : opIx (Vl.app h s as).d (.int 1) = some (.dat (secD s (vds as))) := by simp only [Vl.d]; exact ix1
theorem isi_sec {s : Sc} {l : List D} : isi .tuple (secD s l) = isT s := by cases s <;> rfl
theorem vds_get (as : List Vl) (j : Nat) (t : Vl) (h : as[j]? = some t) : opIx (.tup (vds as)) (.int (j : Nat)) = some (.dat t.d) := by
  have hj := (List.getElem?_eq_some_iff.mp h).1
  show (atI (vds as) (j : Nat)).map EV.dat = _
  unfold L2.atI L2.ixN
  rw [if_pos (by omega), if_pos (by rw [vds_len]; omega)]
  simp only [Int.toNat_natCast, Option.bind_some, vds_map, List.getElem?_map, h, Option.map_some]
theorem opEq_int (i j : Int) : opEq (.int i) (.int j) = some (i == j) := by simp [opEq, txEq, fits, eqv]
def encF (q : Vl × Bool) : D := .tup [q.1.d, .bl q.2]
def kidF (q : Vl × Bool) : List (Vl × Bool) := match q.1 with
  | .app _ _ as => flg as
  | _ => []
def ok1 (q : Vl × Bool) : Bool := match q.1 with
  | .lf x => lfK x == 0 || lfK x == 1 || (q.2 && lfK x == 2)
  | .app h s _ => hdK h != 0 && isT s
def outF (q : Vl × Bool) : List D := match q.1 with
  | .lf x => if lfK x = 1 then [.tup [.str "term", lfD x]] else if lfK x = 2 then [.tup [.str "rest", .str (lfR x)]] else []
  | .app h _ _ => if hdK h = 2 then [.tup [.str "head", hdD h]] else []
/-- the places, from the last one on -/
def backS (m : Nat) : List D := (List.range m).map fun i => .int (((m : Int) - 1) + (i : Nat) * (-1))
theorem backS_len (m : Nat) : (backS m).length = m := by unfold backS; rw [List.length_map, List.length_range]
/-- the children, from the last one on -/
theorem lc_back {step : D → Sto → Res (Option D)} {μ : Sto} {as : List Vl} (h : ∀ (j : Nat) (t : Vl), as[j]? = some t → step (.int (j : Nat)) μ = .ok (some (encF (t, decide (j + 1 = as.length)))) μ) (hl : as.length ≤ 900) :
    lcLoop (.vals (backS as.length)) step (as.length + 1) 0 μ = .ok (((flg as).map encF).reverse) μ := by
  unfold backS
  have key : ∀ i, i < as.length → step (.int (((as.length : Int) - 1) + (i : Nat) * (-1))) μ = .ok (((flg as).map encF).reverse[i]?) μ := fun i hi => by
    have e1 : ((as.length : Int) - 1) + (i : Nat) * (-1) = ((as.length - 1 - i : Nat) : Int) := by omega
    have hj : as.length - 1 - i < as.length := by omega
    rw [e1, h _ _ (List.getElem?_eq_getElem hj)]
    rw [List.getElem?_reverse (by rw [List.length_map, flg_len]; exact hi), List.length_map, flg_len, List.getElem?_map, flg_get, List.getElem?_eq_getElem hj]
    rfl
  have e := lc_pure (s := (List.range as.length).map fun i => D.int (((as.length : Int) - 1) + (i : Nat) * (-1))) (step := step) (g := fun d => match step d μ with | .ok o _ => o | _ => none) (μ := μ) (fun d hd => ?_) (as.length + 1) 0 (Nat.zero_le _)
    (by rw [List.length_map, List.length_range]; omega) (by rw [List.length_map, List.length_range]; exact lim1 (by omega))
  · rw [e, List.drop_zero, List.filterMap_map]
    congr 1
    apply List.ext_getElem?
    intro i
    have fm : ∀ (l : List Nat), (∀ i ∈ l, i < as.length) → l.filterMap ((fun d => match step d μ with | .ok o _ => o | _ => none) ∘ fun i => D.int (((as.length : Int) - 1) + (i : Nat) * (-1))) = l.filterMap fun i => ((flg as).map encF).reverse[i]? := by
      intro l
      induction l with
      | nil => intro _; rfl
      | cons a l ih =>
        intro hl
        rw [List.filterMap_cons, List.filterMap_cons, ih fun i hi => hl i (List.mem_cons_of_mem _ hi)]
        simp only [Function.comp]
        rw [key a (hl a List.mem_cons_self)]
    rw [fm _ fun i hi => List.mem_range.mp hi]
    have all : ∀ (ys : List D), (List.range ys.length).filterMap (fun i => ys[i]?) = ys := fun ys => by
      rw [HT.fm_map (g := fun i => ys[i]?.getD .non) fun i hi => ?_]
      · apply List.ext_getElem
        · simp
        · intro i h1 h2
          simp [List.getElem?_eq_getElem h2]
      · have := List.mem_range.mp hi
        rw [List.getElem?_eq_getElem this]; rfl
    have := all ((flg as).map encF).reverse
    rw [List.length_reverse, List.length_map, flg_len] at this
    rw [this]
  · obtain ⟨i, hi, rfl⟩ := List.mem_map.mp hd
    rw [key i (List.mem_range.mp hi)]
/-- the walk's list where v is of a term's form, None elsewhere -/
def stO (t : Vl) : EV := if wf false t = true then .new (.lst ((stT t).map Ti.d)) else .dat .non
theorem s_standings (t : Vl) (hs : sz t ≤ 450) : VM.run T (n + 3) 6 [.dat t.d] μ = .ok (stO t) μ := by
  rw [run_at (nl := 7) (b := P_standings) (by rfl)]
  unfold P_standings
  have loop := stack_stop (μ := μ) encF outF kidF (fun q => (stT q.1).map Ti.d) (fun q => 2 * sz q.1) ok1 (fun q => wf q.2 q.1) (fun ρ => ∃ o0 o3 o4 o5 o6, ρ = [o0, some (.cel μ.length), some (.cel (μ.length + 1)), o3, o4, o5, o6]) 900
    (c := (bCmp (opCmp .NotEq) (eV 2) (eLst (evs []))) (VM.run T (n + 2)))
    (b := (sSeq (sAsg (eCM aPop (eV 2) (evs [])) (gTp [gNm 3, gNm 4])) (sIf (bTru (eCall 2 (evs [eV 3]))) (sDrop (eCM aAppend (eV 1) (evs [eTup (evs [eC (.str "term"), eV 3])]))) (sIf (bAnd (bTru (eV 4)) (bTru (eCall 4 (evs [eV 3])))) (sDrop (eCM aAppend (eV 1) (evs [eTup (evs [eC (.str "rest"), eSl (eV 3) (oSome (eC (.int 1))) (oNone)])]))) (sIf (bAnd (bTru (eCall 5 (evs [eV 3]))) (bAnd (bTru (eCall 3 (evs [eIx (eV 3) (eC (.int 0))]))) (bTru (eIsi .tuple (eIx (eV 3) (eC (.int 1))))))) (sSeq (sIf (bTru (eCall 2 (evs [eIx (eV 3) (eC (.int 0))]))) (sDrop (eCM aAppend (eV 1) (evs [eTup (evs [eC (.str "head"), eIx (eV 3) (eC (.int 0))])]))) (sPass)) (sSeq (sSet 5 (eBin .Sub (eCb bLen (evs [eIx (eV 3) (eC (.int 1))])) (eC (.int 1)))) (sDrop (eCM aExtend (eV 2) (evs [eLc (iRange (evs [eV 5, eNeg (eC (.int 1)), eNeg (eC (.int 1))])) (.nm 6) (bYes) (eTup (evs [eIx (eIx (eV 3) (eC (.int 1))) (eV 6), eCmp (opCmp .Eq) (eV 6) (eV 5)])) [6]]))))) (sIf (bNot (bTru (eCall 0 (evs [eV 3])))) (sRet (eC .non)) (sPass)))))) (VM.run T (n + 2)))
    ?_ ?_ ?_ ?_ ?_ ?_ ?_ (2 * sz t) LIM [some (.dat t.d), some (.cel μ.length), some (.cel (μ.length + 1)), none, none, none, none] [] [(t, false)] ⟨_, _, _, _, _, rfl⟩ (by simp) (lim2 (by omega)) (by simp; omega)
  · simp only [List.all_cons, List.all_nil, Bool.and_true] at loop
    unfold stO
    by_cases w : wf false t = true
    · obtain ⟨ρ', ⟨o0, o3, o4, o5, o6, rfl⟩, e⟩ := loop.1 w
      rw [if_pos w]
      simp [startE]
      simp [stk, encF] at e
      rw [e]
      simp [callEnd, EV.out]
    · obtain ⟨E, e⟩ := loop.2 (by simpa using w)
      rw [if_neg w]
      simp [startE]
      simp [stk, encF] at e
      rw [e]
      simp [callEnd, EV.out]
  · rintro ⟨t, l⟩ w
    cases t with
    | lf x =>
      have w : (lfK x == 0 || lfK x == 1 || (l && lfK x == 2)) = true := w
      rcases lfK_all x with h | h | h | h
      · simp [stT, th, h, kidF, outF, inS]
      · simp [stT, th, h, kidF, outF, inS, Ti.d, sn, lf_str x (.inl h)]
      · simp [stT, th, h, kidF, outF, inS, Ti.d, sn]
      · simp [h] at w
    | app h s as =>
      have w : (hdK h != 0 && isT s && wfs as) = true := w
      simp only [Bool.and_eq_true, bne_iff_ne] at w
      have e2 : ((flg as).flatMap fun q => (stT q.1).map Ti.d) = ((ths as).filter fun p => inS p.k).map Ti.d := by rw [← List.map_flatMap, flg_th]
      show (stT (.app h s as)).map Ti.d = outF (.app h s as, l) ++ (flg as).flatMap fun q => (stT q.1).map Ti.d
      rw [e2]
      rcases hdK_all h with k | k | k
      · exact absurd k w.1.1
      · simp [stT, th, k, outF, inS]
      · simp [stT, th, k, outF, inS, Ti.d, sn, hd_str h (by omega)]
  · rintro ⟨t, l⟩
    cases t with
    | lf x => simp [wf, ok1, kidF]
    | app h s as => simp only [wf, ok1, kidF, flg_wf]
  · rintro ⟨t, l⟩
    cases t <;> simp [sz, kidF, flg_sz]
    omega
  · rintro ⟨t, l⟩
    cases t <;> simp [sz, kidF, outF, flg_sz]
    · split
      · simp
      · split <;> simp
    · split <;> simp <;> omega
  · rintro ρ Fd L ⟨o0, o3, o4, o5, o6, rfl⟩
    simp [stk, EV.see, ne_nil]
  · rintro ρ Fd ⟨t, fl⟩ L ⟨o0, o3, o4, o5, o6, rfl⟩ hk hB
    have hF : Fd.length < LIM := lim2 (by have := sz_pos t; omega)
    cases t with
    | lf x =>
      refine ⟨[o0, some (.cel μ.length), some (.cel (μ.length + 1)), some (.dat (Vl.lf x).d), some (.dat (.bl fl)), o5, o6], ⟨_, _, _, _, _, rfl⟩, ?_⟩
      have hk : (lfK x == 0 || lfK x == 1 || (fl && lfK x == 2)) = true := hk
      have cut : lfK x = 2 → opSl (Vl.lf x).d (some 1) none = some (.dat (.str (lfR x))) := fun h => lf_cut x ((star_k x).2 h)
      rcases lfK_all x with h | h | h | h
      · cases fl <;> simp [stk, encF, v_var, isV, v_rest, isR, v_app, isA, v_int, isN, kidF, outF, h]
      · have ed : (Vl.lf x).d = lfD x := rfl
        simp [stk, encF, lf_var, aAppend_c hF, kidF, outF, h, ed]
      · have : fl = true := by simpa [h] using hk
        subst this
        simp [stk, encF, v_var, isV, v_rest, isR, aAppend_c hF, kidF, outF, oSome, oNone, cut h, h]
      · simp [h] at hk
    | app h s as =>
      have hB' : Fd.length + 2 * (1 + szs as) + (L.map fun q => 2 * sz q.1).sum ≤ 900 := by simpa only [sz] using hB
      have hk : (hdK h != 0 && isT s) = true := hk
      rw [Bool.and_eq_true] at hk
      obtain rfl : s = .tup := by
        cases s with
        | tup => rfl
        | lst => exact absurd hk.2 (by decide)
        | non => exact absurd hk.2 (by decide)
      have hl := len_szs as
      have hLl := sum_len (f := fun q : Vl × Bool => 2 * sz q.1) (fun q => by have := sz_pos q.1; omega) L
      have ex := aExtend_c (l := (L.map encF).reverse) (e := ((flg as).map encF).reverse) (by
        rw [List.length_reverse, List.length_reverse, List.length_map, List.length_map, flg_len]
        exact Nat.le_trans (Nat.add_le_add (by omega : L.length ≤ 900) (by omega : as.length ≤ 900)) (by decide))
      have lm : (flg as).length ≤ LIM := by rw [flg_len]; exact lim1 (by omega)
      have rg : rangeOf [.dat (.int ((as.length : Int) - 1)), .dat (.int (-1)), .dat (.int (-1))] = some (.vals (backS as.length)) := by
        have hc : (-1 : Int) = -1 ∧ -1000000 ≤ (-1 : Int) ∧ (-1 : Int) ≤ 1000000 ∧ -1000000 ≤ (as.length : Int) - 1 ∧ (as.length : Int) - 1 ≤ 1000000 := ⟨rfl, by decide, by decide, by omega, by omega⟩
        have hn : ((as.length : Int) - 1 - -1).toNat = as.length := by omega
        unfold rangeOf backS
        exact (if_pos hc).trans (by rw [hn])
      have ix1' : opIx (Vl.app h .tup as).d (.int 1) = some (.dat (.tup (vds as))) := ix_app1
      have lc : ∀ Fd', lcLoop (.vals (backS as.length)) (lcStep (VM.run T (n + 2)) (.nm 6) bYes (eTup (evs [eIx (eIx (eV 3) (eC (.int 1))) (eV 6), eCmp (opCmp .Eq) (eV 6) (eV 5)])) (wipeE [o0, some (.cel μ.length), some (.cel (μ.length + 1)), some (.dat (Vl.app h .tup as).d), some (.dat (.bl fl)), some (.dat (.int ((as.length : Int) - 1))), o6] [6])) (as.length + 1) 0
          (μ ++ [⟨true, .lst Fd'⟩, ⟨true, .lst (L.map encF).reverse⟩]) = .ok (((flg as).map encF).reverse) (μ ++ [⟨true, .lst Fd'⟩, ⟨true, .lst (L.map encF).reverse⟩]) := fun Fd' => lc_back (fun j t hj => by
        have e : ((j : Int) == (as.length : Int) - 1) = decide (j + 1 = as.length) := by
          rw [Bool.eq_iff_iff, beq_iff_eq, decide_eq_true_iff]
          omega
        simp [wipeE, asg, ix1', vds_get as j t hj, opCmp, opEq_int, e, encF]) (by omega)
      refine ⟨[o0, some (.cel μ.length), some (.cel (μ.length + 1)), some (.dat (Vl.app h .tup as).d), some (.dat (.bl fl)), some (.dat (.int ((as.length : Int) - 1))), o6], ⟨_, _, _, _, _, rfl⟩, ?_⟩
      simp only [stk, kidF, List.map_append, List.reverse_append, List.map_cons, List.reverse_cons]
      have subI : ∀ a : Int, opBin .Sub (.int a) (.int 1) = some (.dat (.int (a - 1))) := fun a => rfl
      rcases hdK_all h with k | k | k
      · simp [k] at hk
      · cases fl <;> simp [encF, v_var, isV, v_rest, isR, v_app, isA, ix1', ix_app0, hd_head, hd_var, k, isi, aAppend_c hF, outF, bLen, vds_len, eNeg, rg, backS_len, lc, lm, ex, subI]
      · cases fl <;> simp [encF, v_var, isV, v_rest, isR, v_app, isA, ix1', ix_app0, hd_head, hd_var, k, isi, aAppend_c hF, outF, bLen, vds_len, eNeg, rg, backS_len, lc, lm, ex, subI]
  · rintro ρ Fd ⟨t, fl⟩ L ⟨o0, o3, o4, o5, o6, rfl⟩ hk hB
    cases t with
    | lf x =>
      have hk : (lfK x == 0 || lfK x == 1 || (fl && lfK x == 2)) = false := hk
      rcases lfK_all x with h | h | h | h
      · simp [h] at hk
      · simp [h] at hk
      · have : fl = false := by simpa [h] using hk
        subst this
        simp [stk, encF, v_var, isV, v_rest, isR, v_app, isA, v_int, isN, h]
      · cases fl <;> simp [stk, encF, v_var, isV, v_rest, isR, v_app, isA, v_int, isN, h]
    | app h s as =>
      have hk : (hdK h != 0 && isT s) = false := hk
      rcases hdK_all h with k | k | k
      · cases fl <;> simp [stk, encF, v_var, isV, v_rest, isR, v_app, isA, v_int, isN, ix_app0, ix_app1, hd_head, k]
      · have hs : isT s = false := by simpa [k] using hk
        cases fl <;> simp [stk, encF, v_var, isV, v_rest, isR, v_app, isA, v_int, isN, ix_app0, ix_app1, hd_head, k, isi_sec, hs]
      · have hs : isT s = false := by simpa [k] using hk
        cases fl <;> simp [stk, encF, v_var, isV, v_rest, isR, v_app, isA, v_int, isN, ix_app0, ix_app1, hd_head, k, isi_sec, hs]
end
end K11
set_option maxHeartbeats 0
/-! k11: one variable, one sort. -/
namespace K11
open VM Law
open L2 (atI ixN)
section
variable {g : L2.Key → D}
theorem dhas_cons (k : L2.Key) (ks : List L2.Key) (j : L2.Key) : dhas (k :: ks) j = (keyEq k j || dhas ks j) := rfl
theorem dget_g : ∀ (ks : List L2.Key) (j : L2.Key), dget ks (ks.map g) j = if dhas ks j = true then some (g j) else none
  | [], j => by simp [dget, dhas]
  | k :: ks, j => by
    have ih := dget_g ks j
    simp only [List.map_cons, dget]
    by_cases c : keyEq k j = true
    · have h : dhas (k :: ks) j = true := by rw [dhas_cons, c, Bool.true_or]
      rw [if_pos c, if_pos h, keyEq_iff.mp c]
    · have c' : keyEq k j = false := by simpa using c
      have h : dhas (k :: ks) j = dhas ks j := by rw [dhas_cons, c', Bool.false_or]
      rw [if_neg c, ih, h]
theorem dput_g : ∀ (ks : List L2.Key) (j : L2.Key), dput ks (ks.map g) j (g j) = if dhas ks j = true then (ks, ks.map g) else (ks ++ [j], (ks ++ [j]).map g)
  | [], j => by simp [dput, dhas]
  | k :: ks, j => by
    have ih := dput_g ks j
    simp only [List.map_cons, dput, dhas_cons]
    by_cases c : keyEq k j = true
    · rw [if_pos c, c, Bool.true_or, if_pos rfl, keyEq_iff.mp c]
    · have c' : keyEq k j = false := by simpa using c
      rw [if_neg c, c', Bool.false_or, ih]
      by_cases h : dhas ks j = true
      · rw [if_pos h, if_pos h]
      · rw [if_neg h, if_neg h]; simp
theorem dhas_app (ks : List L2.Key) (a j : L2.Key) : dhas (ks ++ [a]) j = (dhas ks j || keyEq a j) := by simp [dhas, List.any_append]
theorem keyEq_symm (a b : L2.Key) : keyEq a b = keyEq b a := by
  rw [Bool.eq_iff_iff, keyEq_iff, keyEq_iff]
  exact ⟨Eq.symm, Eq.symm⟩
theorem ndK_app : ∀ (ks : List L2.Key) (j : L2.Key), ndK ks = true → dhas ks j = false → ndK (ks ++ [j]) = true
  | [], j, _, _ => by simp [ndK, dhas]
  | k :: ks, j, h, hj => by
    simp only [ndK, Bool.and_eq_true, Bool.not_eq_true'] at h
    simp only [dhas, List.any_cons, Bool.or_eq_false_iff] at hj
    have ih := ndK_app ks j h.2 (by simpa only [dhas] using hj.2)
    simp only [List.cons_append, ndK, Bool.and_eq_true, Bool.not_eq_true', ih, and_true]
    rw [dhas_app, h.1, Bool.false_or, keyEq_symm, hj.1]
end
/-- the first sort of a variable -/
def frs (Fd : List Ti) (v : PySem.Str) : Fin 5 := match Fd.find? fun p => decide (p.x = v) with
  | some p => p.k
  | none => 0
def oneOk (Fd : List Ti) : Bool := Fd.all fun p => frs Fd p.x == p.k
theorem frs_at {A B : List Ti} {p : Ti} (h : ∀ q ∈ A, q.x ≠ p.x) : frs (A ++ p :: B) p.x = p.k := by
  have : (A ++ p :: B).find? (fun q => decide (q.x = p.x)) = some p := by
    rw [List.find?_append, List.find?_eq_none.mpr fun q hq => by simpa using h q hq]
    simp
  unfold frs
  rw [this]
def gF (Fd : List Ti) (k : L2.Key) : D := match k with
  | .inr v => .str (sn (frs Fd v))
  | _ => .non
theorem sn_eq : ∀ a b : Fin 5, opEq (.str (sn a)) (.str (sn b)) = some (a == b) := by decide +kernel
theorem dic_same {ks : List L2.Key} {v : PySem.Str} : keyEq (.inr v) (.inr v) = true := keyEq_iff.mpr rfl
theorem bls_map {α : Type} (f : α → Bool) : ∀ l : List α, bls (l.map fun p => .bl (f p)) = some (l.map f)
  | [] => rfl
  | a :: l => by
    have := bls_map f l
    simp only [List.map_cons, bls, this]; rfl
theorem ti_d {p : Ti} (h : p.k ≠ 0) : p.d = .tup [.str (sn p.k), .str p.x] := by unfold Ti.d; rw [if_neg h]
section
variable {n : Nat} {μ : Sto}
theorem one_loop {F : Fns} {S : Src} {Fd : List Ti} (hat : ∀ c : Cell, S.at (μ ++ [c]) = some (Fd.map Ti.d)) (hk : ∀ p ∈ Fd, p.k ≠ 0) (hl : Fd.length ≤ 900) (o0 : Option SV) : ∀ (m i : Nat) (ks : List L2.Key), i ≤ Fd.length → Fd.length < i + m → ks.length ≤ i → ndK ks = true →
    (∀ p ∈ Fd.take i, dhas ks (.inr p.x) = true) →
    ∃ ks' : List L2.Key, lcLoop S (lcStep F (.tup [.nm 2, .nm 3]) bYes (eCmp (opCmp .Eq) (eSetd (eV 1) (eV 3) (eV 2)) (eV 2)) [o0, some (.cel μ.length), none, none]) m i (μ ++ [⟨true, .dic ks (ks.map (gF Fd))⟩]) =
      .ok ((Fd.drop i).map fun p => .bl (frs Fd p.x == p.k)) (μ ++ [⟨true, .dic ks' (ks'.map (gF Fd))⟩])
  | 0, i, ks, h1, h2, _, _, _ => by omega
  | m + 1, i, ks, h1, h2, h3, h4, h5 => by
    unfold lcLoop
    rw [hat]
    simp only [List.getElem?_map]
    cases e : Fd[i]? with
    | none =>
      have : Fd.length ≤ i := List.getElem?_eq_none_iff.mp e
      refine ⟨ks, ?_⟩
      rw [List.drop_eq_nil_of_le this]; rfl
    | some p =>
      obtain ⟨hi, ep⟩ := List.getElem?_eq_some_iff.mp e
      have hp := hk p (List.mem_of_getElem? e)
      simp only [Option.map_some]
      rw [if_pos (show i < LIM from lim2 (by omega)), ti_d hp]
      have hks : ks.length < LIM := lim2 (by omega)
      have hdr : Fd.drop i = p :: Fd.drop (i + 1) := by rw [← ep]; exact (List.drop_eq_getElem_cons hi)
      have htk : Fd.take (i + 1) = Fd.take i ++ [p] := by rw [List.take_add_one, e]; rfl
      have pg := dput_g (g := gF Fd) ks (Sum.inr p.x : L2.Key)
      by_cases c : dhas ks (.inr p.x) = true
      · obtain ⟨ks', ih⟩ := one_loop (F := F) hat hk hl o0 m (i + 1) ks (by omega) (by omega) (by omega) h4 fun q hq => by
          rw [htk] at hq
          rcases List.mem_append.mp hq with hq | hq
          · exact h5 q hq
          · rw [List.mem_singleton.mp hq]; exact c
        refine ⟨ks', ?_⟩
        have st : lcStep F (.tup [.nm 2, .nm 3]) bYes (eCmp (opCmp .Eq) (eSetd (eV 1) (eV 3) (eV 2)) (eV 2)) [o0, some (.cel μ.length), none, none] (.tup [.str (sn p.k), .str p.x]) (μ ++ [⟨true, .dic ks (ks.map (gF Fd))⟩]) = .ok (some (.bl (frs Fd p.x == p.k))) (μ ++ [⟨true, .dic ks (ks.map (gF Fd))⟩]) := by
          simp [asg, asgs, eSetd, EV.see, D.key, h4, hks, dget_g, c, gF, opCmp, sn_eq]
        rw [st, Res.bind_ok, ih, Res.bind_ok, hdr, List.map_cons]
      · have c' : dhas ks (.inr p.x) = false := by simpa using c
        rw [if_neg c] at pg
        have fp : frs Fd p.x = p.k := by
          have : Fd = Fd.take i ++ p :: Fd.drop (i + 1) := by rw [← hdr, List.take_append_drop]
          rw [this]
          refine frs_at fun q hq ne => ?_
          have := h5 q hq
          rw [ne] at this
          exact c this
        obtain ⟨ks', ih⟩ := one_loop (F := F) hat hk hl o0 m (i + 1) (ks ++ [.inr p.x]) (by omega) (by omega) (by rw [List.length_append]; simp; omega) (ndK_app ks _ h4 c') fun q hq => by
          rw [htk] at hq
          rw [dhas_app]
          rcases List.mem_append.mp hq with hq | hq
          · rw [h5 q hq, Bool.true_or]
          · rw [List.mem_singleton.mp hq, keyEq_iff.mpr rfl, Bool.or_true]
        refine ⟨ks', ?_⟩
        have pg1 : (dput ks (ks.map (gF Fd)) (Sum.inr p.x : L2.Key) (.str (sn p.k))).1 = ks ++ [(Sum.inr p.x : L2.Key)] := by rw [show D.str (sn p.k) = gF Fd (Sum.inr p.x : L2.Key) by simp only [gF]; rw [fp], pg]
        have pg2 : (dput ks (ks.map (gF Fd)) (Sum.inr p.x : L2.Key) (.str (sn p.k))).2 = (ks ++ [(Sum.inr p.x : L2.Key)]).map (gF Fd) := by rw [show D.str (sn p.k) = gF Fd (Sum.inr p.x : L2.Key) by simp only [gF]; rw [fp], pg]
        have st : lcStep F (.tup [.nm 2, .nm 3]) bYes (eCmp (opCmp .Eq) (eSetd (eV 1) (eV 3) (eV 2)) (eV 2)) [o0, some (.cel μ.length), none, none] (.tup [.str (sn p.k), .str p.x]) (μ ++ [⟨true, .dic ks (ks.map (gF Fd))⟩]) = .ok (some (.bl (frs Fd p.x == p.k))) (μ ++ [⟨true, .dic (ks ++ [Sum.inr p.x]) ((ks ++ [(Sum.inr p.x : L2.Key)]).map (gF Fd))⟩]) := by
          simp only [x_step, asg, asgs, List.length_cons, List.length_nil]
          simp [eSetd, EV.see, D.key, h4, hks, dget_g, c', pg1, pg2, opCmp, sn_eq, fp]
        rw [st, Res.bind_ok, ih, Res.bind_ok, hdr, List.map_cons]
/-- a told list, in a cell or not -/
def Sq (sv : SV) (L : List D) (μ : Sto) : Prop := sv = .dat (.lst L) ∨ ∃ k, sv = .cel k ∧ μ[k]? = some ⟨true, .lst L⟩
theorem Sq.src {sv : SV} {L : List D} (h : Sq sv L μ) : ∃ S, (∀ E : Sto, srcOf sv.ev (μ ++ E) = some S) ∧ ∀ E : Sto, S.at (μ ++ E) = some L ∧ S.len (μ ++ E) = L.length := by
  rcases h with rfl | ⟨k, rfl, hk⟩
  · exact ⟨.vals L, fun _ => rfl, fun _ => ⟨rfl, rfl⟩⟩
  · have hkl : k < μ.length := (List.getElem?_eq_some_iff.mp hk).1
    have e : ∀ E : Sto, (μ ++ E)[k]? = some ⟨true, .lst L⟩ := fun E => by rw [List.getElem?_append_left hkl, hk]
    refine ⟨.cell k, fun E => by simp only [srcOf, ev_cel, e E], fun E => ?_⟩
    have a : (Src.cell k).at (μ ++ E) = some L := by simp only [Src.at, e E]
    exact ⟨a, by simp only [Src.len, a]⟩
theorem Sq.see {sv : SV} {L : List D} (h : Sq sv L μ) (E : Sto) : sv.ev.see (μ ++ E) = some (.lst L) := by
  rcases h with rfl | ⟨k, rfl, hk⟩
  · rfl
  · have hkl : k < μ.length := (List.getElem?_eq_some_iff.mp hk).1
    simp only [EV.see, ev_cel]
    rw [List.getElem?_append_left hkl, hk]; rfl
theorem s_oneSort {sv : SV} {Fd : List Ti} (hs : Sq sv (Fd.map Ti.d) μ) (hk : ∀ p ∈ Fd, p.k ≠ 0) (hl : Fd.length ≤ 900) : VM.run T (n + 1) 7 [sv] μ = .ok (.dat (.bl (oneOk Fd))) μ := by
  rw [run_at (nl := 4) (b := P_have_one_sort) (by rfl)]
  unfold P_have_one_sort
  obtain ⟨S, so, sa⟩ := hs.src
  obtain ⟨ks', e⟩ := one_loop (F := VM.run T n) (S := S) (fun c => (sa [c]).1) hk hl (some sv) (Fd.length + 1) 0 [] (Nat.zero_le _) (by omega) (Nat.zero_le _) rfl (by simp)
  have sl := (sa [⟨true, .dic [] []⟩]).2
  have so := so [⟨true, .dic [] []⟩]
  rw [List.length_map] at sl
  have hr : Fd.length ≤ LIM := lim1 (by omega)
  simp only [List.map_nil, List.drop_zero] at e
  have al : (Fd.map fun p => frs Fd p.x == p.k).all id = oneOk Fd := by unfold oneOk; rw [List.all_map]; rfl
  simp [startE, so, sl, wipeE, e, hr, bAll, bls_map, callEnd, EV.out, al, oneOk]
theorem stT_mem {t : Vl} {p : Ti} (h : p ∈ stT t) : p.k ≠ 0 := fun e => by
  have := (List.mem_filter.mp h).2
  rw [e] at this
  cases this
end
mutual
theorem th_len : ∀ t : Vl, (th t).length ≤ sz t
  | .lf x => by
    simp only [th, sz]
    split
    · simp
    · split <;> simp
  | .app h s as => by
    have := ths_len as
    simp only [th, sz, List.length_cons]; omega
theorem ths_len : ∀ ts : List Vl, (ths ts).length ≤ szs ts
  | [] => by simp [ths]
  | t :: ts => by
    have := th_len t
    have := ths_len ts
    simp only [ths, szs, List.length_append]; omega
end
theorem stT_len (t : Vl) : (stT t).length ≤ sz t := Nat.le_trans (List.length_filter_le _ _) (th_len t)
section
variable {n : Nat} {μ : Sto}
def isTm (t : Vl) : Bool := wf false t && oneOk (stT t)
theorem isnot_lst {l : List D} : opCmp .IsNot (.lst l) .non = some true := rfl
theorem isnot_non : opCmp .IsNot .non .non = some false := rfl
theorem s_isTerm (t : Vl) (hs : sz t ≤ 450) : VM.run T (n + 4) 11 [.dat t.d] μ = .ok (.dat (.bl (isTm t))) μ := by
  rw [run_at (nl := 2) (b := P_is_term) (by rfl)]
  unfold P_is_term isTm
  have e := s_standings (n := n) (μ := μ) t hs
  unfold stO at e
  by_cases w : wf false t = true
  · rw [if_pos w] at e
    have o := s_oneSort (n := n + 2) (μ := μ ++ [⟨true, .lst ((stT t).map Ti.d)⟩]) (sv := .cel μ.length) (Fd := stT t) (.inr ⟨_, rfl, by simp⟩) (fun p => stT_mem) (by have := stT_len t; omega)
    simp [startE, e, isnot_lst, o, w, callEnd, EV.out, EV.see]
  · rw [if_neg w] at e
    have w' : wf false t = false := by simpa using w
    simp [startE, e, w', isnot_non, callEnd, EV.out]
theorem s_isKind (t : Vl) (hs : sz t ≤ 450) : VM.run T (n + 4) 12 [.dat t.d] μ = .ok (.dat (.bl (wf false t && (stT t).isEmpty))) μ := by
  rw [run_at (nl := 1) (b := P_is_kind) (by rfl)]
  unfold P_is_kind
  have e := s_standings (n := n) (μ := μ) t hs
  unfold stO at e
  by_cases w : wf false t = true
  · rw [if_pos w] at e
    simp [startE, e, w, eq_nil, callEnd, EV.out]
  · rw [if_neg w] at e
    have w' : wf false t = false := by simpa using w
    have : opCmp .Eq .non (.lst []) = some false := by decide +kernel
    simp [startE, e, w', this, callEnd, EV.out]
end
end K11
set_option maxHeartbeats 0
/-! k11: the law's own walk. -/
namespace K11
open VM Law
open L2 (atI ixN)
def cL (l : List D) : Cell := ⟨true, .lst l⟩
def thD (t : Vl) : List D := (th t).map Ti.d
def thO (t : Vl) : EV := if wf false t = true then .new (.lst (thD t)) else .dat .non
def thB : SS := (sSeq (sIf (bAnd (bTru (eIsi .str (eV 5))) (bCmp (opCmp .Eq) (eSl (eV 5) (oNone) (oSome (eC (.int 1)))) (eC (.str "*")))) (sSet 6 (eIf (bAnd (bTru (eCall 19 (evs [eSl (eV 5) (oSome (eC (.int 1))) (oNone)]))) (bCmp (opCmp .Eq) (eV 4) (eBin .Sub (eCb bLen (evs [eV 2])) (eC (.int 1))))) (eLst (evs [eTup (evs [eC (.str "rest"), eSl (eV 5) (oSome (eC (.int 1))) (oNone)])])) (eC .non))) (sSet 6 (eCall 21 (evs [eV 5])))) (sSeq (sIf (bCmp (opCmp .Is) (eV 6) (eC .non)) (sRet (eC .non)) (sPass)) (sSet 3 (eBin .Add (eV 3) (eV 6)))))
theorem addL {xs ys : List D} (h : xs.length + ys.length ≤ 1000) : opBin .Add (.lst xs) (.lst ys) = some (.new (.lst (xs ++ ys))) := if_pos (lim1 h)
theorem is_lst {l : List D} : opIs (.lst l) .non = some false := rfl
theorem is_non : opIs .non .non = some true := rfl
section
variable {n : Nat} {μ : Sto}
theorem l_int : ∀ t : Vl, VM.run T (n + 1) 20 [.dat t.d] μ = .ok (.dat (.bl (isN t))) μ
  | .lf x => ll_int x
  | .app h s as => pure_of (by kernel_rfl)
theorem l_var : ∀ t : Vl, VM.run T (n + 2) 19 [.dat t.d] μ = .ok (.dat (.bl (isV t))) μ
  | .lf x => ll_var x
  | .app h s as => pure_of (by kernel_rfl)
/-- one more arg -/
theorem th_step (v : Vl) (fl : Bool) {kf : Nat} {X : Sto} {acc : List D} {at' len : Int} {as : List D} (o0 o1 o4 o5 o6 : Option SV) (hk : X[kf]? = some (cL acc)) (hl : acc.length + (thD v).length ≤ 1000) (hlen : (as.length : Int) = len)
    (hfl : opCmp .Eq (.int at') (.int (len - 1)) = some fl) (hF : ∀ X : Sto, VM.run T (n + 2) 21 [.dat v.d] X = .ok (thO v) X) :
    thB (VM.run T (n + 2)) [o0, o1, some (.dat (.tup as)), some (.cel kf), some (.dat (.int at')), some (.dat v.d), o6] X =
      if wf fl v = true then .ok (.nx [o0, o1, some (.dat (.tup as)), some (.cel (X.length + 1)), some (.dat (.int at')), some (.dat v.d), some (.cel X.length)]) (X ++ [cL (thD v), cL (acc ++ thD v)])
      else .ok (.rt (.dat .non)) X := by
  have hkl : kf < X.length := (List.getElem?_eq_some_iff.mp hk).1
  have subI : ∀ a : Int, opBin .Sub (.int a) (.int 1) = some (.dat (.int (a - 1))) := fun a => rfl
  have hk2 : (X ++ [cL (thD v)])[kf]? = some (cL acc) := by rw [List.getElem?_append_left hkl]; exact hk
  have add := addL hl
  -- any value but a text with a star ahead
  have go : (∀ (ρ : Env), ρ[5]? = some (some (.dat v.d)) → (bAnd (bTru (eIsi .str (eV 5))) (bCmp (opCmp .Eq) (eSl (eV 5) (oNone) (oSome (eC (.int 1)))) (eC (.str "*")))) (VM.run T (n + 2)) ρ X = .ok false X) → wf fl v = wf false v →
      thB (VM.run T (n + 2)) [o0, o1, some (.dat (.tup as)), some (.cel kf), some (.dat (.int at')), some (.dat v.d), o6] X =
      if wf fl v = true then .ok (.nx [o0, o1, some (.dat (.tup as)), some (.cel (X.length + 1)), some (.dat (.int at')), some (.dat v.d), some (.cel X.length)]) (X ++ [cL (thD v), cL (acc ++ thD v)])
      else .ok (.rt (.dat .non)) X := fun ht hw => by
    have e := hF X
    unfold thO at e
    have ht := ht [o0, o1, some (.dat (.tup as)), some (.cel kf), some (.dat (.int at')), some (.dat v.d), o6] rfl
    rw [hw]
    unfold thB
    simp only [xs_seq, xs_if, ht]
    by_cases w : wf false v = true
    · rw [if_pos w] at e ⊢
      have g1 : (X ++ [cL (thD v)])[X.length]? = some (cL (thD v)) := by simp
      simp only [cL] at hk2 g1
      simp [e, EV.see, cL, hk2, opCmp, is_lst, add]
    · rw [if_neg w] at e ⊢
      simp [e, opCmp, is_non]
  cases v with
  | app h s as' =>
    refine go (fun ρ hρ => ?_) (by simp [wf])
    have : isi .str (Vl.app h s as').d = false := rfl
    simp [hρ, this]
  | lf x =>
    have ed : (Vl.lf x).d = lfD x := rfl
    by_cases st : lfStar x = true
    · obtain ⟨⟨k0, k1, k2⟩, _⟩ := And.intro ((star_k x).1 st) True.intro
      obtain ⟨y, c1, c2⟩ := lf_cut1 x k0
      rw [st] at c2
      have cut := lf_cut x st
      have rv := ll_rv (n := n) (μ := X) x st
      have hw : wf fl (.lf x) = (fl && lfK x == 2) := by simp [wf, k1, k2]
      rw [hw]
      have td : lfK x = 2 → thD (.lf x) = [.tup [.str "rest", .str (lfR x)]] := fun h => by simp [thD, th, h, Ti.d, sn]
      unfold thB
      rw [ed]
      by_cases hx : lfK x = 2
      · have hb : (lfK x == 2) = true := by simp [hx]
        rw [hb] at rv
        rw [td hx] at add hk2 ⊢
        cases fl with
        | true =>
          have g1 : (X ++ [cL [.tup [.str "rest", .str (lfR x)]]])[X.length]? = some (cL [.tup [.str "rest", .str (lfR x)]]) := by simp
          simp only [cL] at hk2 g1
          simp [lf_isS, k0, oNone, oSome, c1, opCmp, c2, cut, rv, bLen, hlen, subI] at hfl ⊢
          simp [hfl, hx, EV.see, cL, hk2, is_lst, add]
        | false =>
          simp [lf_isS, k0, oNone, oSome, c1, opCmp, c2, cut, rv, bLen, hlen, subI] at hfl ⊢
          simp [hfl, is_non]
      · have hb : (lfK x == 2) = false := by simp [hx]
        rw [hb] at rv
        simp [lf_isS, k0, oNone, oSome, c1, opCmp, c2, cut, rv, hb]
        simp [is_non]
    · have st' : lfStar x = false := by simpa using st
      refine go (fun ρ hρ => ?_) ?_
      · cases hs : lfIsS x with
        | false => simp [hρ, ed, lf_isS, hs]
        | true =>
          obtain ⟨y, c1, c2⟩ := lf_cut1 x hs
          simp [hρ, ed, lf_isS, hs, oNone, oSome, c1, opCmp, c2, st']
      · have : lfK x ≠ 2 := fun h => st ((star_k x).2 h)
        simp [wf, this]
end
end K11
set_option maxHeartbeats 0
/-! k11: the law's own walk, whole. -/
namespace K11
open VM Law
open L2 (atI ixN)
section
variable {n : Nat} {μ : Sto}
theorem enum_at {A R : List Vl} {v : Vl} : (enumD (vds (A ++ v :: R)))[A.length]? = some (.tup [.int (A.length : Nat), v.d]) := by
  unfold enumD
  simp [vds_map]
theorem enum_end {A : List Vl} : (enumD (vds A))[A.length]? = none := by
  unfold enumD
  simp [vds_map]
theorem th_loop (as : List Vl) (o0 o1 : Option SV) : ∀ (R A : List Vl) (m kf : Nat) (X : Sto) (acc : List D) (o4 o5 o6 : Option SV), as = A ++ R → X[kf]? = some (cL acc) → acc.length + (ths R).length ≤ 1000 → R.length < m →
    (∀ v ∈ R, ∀ X : Sto, VM.run T (n + 2) 21 [.dat v.d] X = .ok (thO v) X) →
    ∃ (Y : Sto) (kf' : Nat) (q4 q5 q6 : Option SV), forL (VM.run T (n + 2)) (.vals (enumD (vds as))) (gTp [gNm 4, gNm 5]) thB m A.length [o0, o1, some (.dat (.tup (vds as))), some (.cel kf), o4, o5, o6] X =
      (if wfs R = true then .ok (.nx [o0, o1, some (.dat (.tup (vds as))), some (.cel kf'), q4, q5, q6]) (X ++ Y) else .ok (.rt (.dat .non)) (X ++ Y)) ∧
      (wfs R = true → (X ++ Y)[kf']? = some (cL (acc ++ (ths R).map Ti.d))) ∧ (kf' = kf ∨ X.length ≤ kf')
  | [], A, 0, kf, X, acc, o4, o5, o6, e, hk, hl, hm, hF => by simp at hm
  | [], A, m + 1, kf, X, acc, o4, o5, o6, e, hk, hl, hm, hF => by
    rw [List.append_nil] at e
    subst e
    refine ⟨[], kf, o4, o5, o6, ?_, fun _ => by simpa [ths] using hk, .inl rfl⟩
    unfold forL
    simp [enum_end, wfs]
  | v :: R, A, 0, kf, X, acc, o4, o5, o6, e, hk, hl, hm, hF => by simp at hm
  | v :: R, A, m + 1, kf, X, acc, o4, o5, o6, e, hk, hl, hm, hF => by
    simp only [ths, List.length_append] at hl
    have tl : (thD v).length = (th v).length := by unfold thD; rw [List.length_map]
    have st := th_step (n := n) v R.isEmpty (at' := (A.length : Nat)) (len := (as.length : Nat)) (as := vds as) o0 o1 o4 o5 o6 hk (by omega) (by rw [vds_len]) (by
      rw [e]
      simp only [opCmp, opEq_int, List.length_append, List.length_cons]
      congr 1
      cases R with
      | nil => simp
      | cons r R =>
        simp only [List.length_cons, List.isEmpty_cons]
        rw [beq_eq_false_iff_ne]
        omega) (hF v List.mem_cons_self)
    have ga := enum_at (A := A) (R := R) (v := v)
    rw [← e] at ga
    have un : forL (VM.run T (n + 2)) (.vals (enumD (vds as))) (gTp [gNm 4, gNm 5]) thB (m + 1) A.length [o0, o1, some (.dat (.tup (vds as))), some (.cel kf), o4, o5, o6] X =
        match thB (VM.run T (n + 2)) [o0, o1, some (.dat (.tup (vds as))), some (.cel kf), some (.dat (.int (A.length : Nat))), some (.dat v.d), o6] X with
        | .ok (.nx ρ2) μ2 => forL (VM.run T (n + 2)) (.vals (enumD (vds as))) (gTp [gNm 4, gNm 5]) thB m (A.length + 1) ρ2 μ2
        | .ok (.ct ρ2) μ2 => forL (VM.run T (n + 2)) (.vals (enumD (vds as))) (gTp [gNm 4, gNm 5]) thB m (A.length + 1) ρ2 μ2
        | .ok (.bk ρ2) μ2 => .ok (.nx ρ2) μ2
        | r => r := by
      conv => lhs; unfold forL
      simp [ga] <;> first | rfl | (split <;> rfl)
    rw [un, st]
    have hw : wfs (v :: R) = (wf R.isEmpty v && wfs R) := by simp only [wfs]
    rw [hw]
    by_cases w : wf R.isEmpty v = true
    · rw [if_pos w, w, Bool.true_and]
      obtain ⟨Y, kf', q4, q5, q6, e1, e2, e3⟩ := th_loop as o0 o1 R (A ++ [v]) m (X.length + 1) (X ++ [cL (thD v), cL (acc ++ thD v)]) (acc ++ thD v) (some (.dat (.int (A.length : Nat)))) (some (.dat v.d)) (some (.cel X.length)) (by rw [e]; simp) (by simp) (by rw [List.length_append]; omega) (by simp at hm; omega)
        fun u hu => hF u (List.mem_cons_of_mem _ hu)
      rw [List.length_append, List.length_singleton] at e1
      refine ⟨[cL (thD v), cL (acc ++ thD v)] ++ Y, kf', q4, q5, q6, ?_, fun h => ?_, .inr (by rw [List.length_append] at e3; omega)⟩
      · rw [← List.append_assoc]
        exact e1
      · rw [← List.append_assoc, e2 h]
        simp [ths, thD]
    · have w' : wf R.isEmpty v = false := by simpa using w
      rw [if_neg w, w', Bool.false_and]
      exact ⟨[], kf, none, none, none, by simp, (fun h => nomatch h), .inl rfl⟩
theorem lf_tup (x : Lf) : isi .tuple (lfD x) = false ∨ ∃ l, lfD x = .tup l ∧ l.length ≠ 2 := by
  cases x <;> first | exact .inl rfl | exact .inr ⟨_, rfl, by decide⟩
theorem isi_tup {l : List D} : isi .tuple (.tup l) = true := rfl
mutual
theorem l_things : ∀ (t : Vl) (n : Nat), sz t ≤ 900 → ∀ μ : Sto, VM.run T (n + 3 + dep t) 21 [.dat t.d] μ = .ok (thO t) μ
  | .lf x, n, _, μ => by
    rw [show n + 3 + dep (.lf x) = (n + 3) + 1 by simp [dep]]
    rw [run_at (nl := 7) (b := P__law_things) (by rfl)]
    unfold P__law_things
    have ed : (Vl.lf x).d = lfD x := rfl
    have i0 := l_int (n := n + 2) (μ := μ) (.lf x)
    have i1 := l_var (n := n + 1) (μ := μ) (.lf x)
    rw [ed] at i0 i1 ⊢
    have w : wf false (.lf x) = (lfK x == 0 || lfK x == 1) := by simp [wf]
    unfold thO thD
    rw [w]
    rcases lfK_all x with h | h | h | h
    · have es := lf_num x h
      rw [es] at i0 i1 ⊢
      simp [startE, i0, isN, h, th, Ti.d, sn, callEnd, EV.out]
    · have es := lf_str x (.inl h)
      rw [es] at i0 i1 ⊢
      simp [startE, i0, i1, isN, isV, h, th, Ti.d, sn, callEnd, EV.out]
    · rcases lf_tup x with ht | ⟨l, el, hl⟩
      · simp [startE, i0, i1, isN, isV, h, ht, callEnd, EV.out]
      · have c : opCmp .NotEq (.int (l.length : Nat)) (.int 2) = some true := by
          simp only [opCmp, opEq_int]
          simp; omega
        rw [el] at i0 i1 ⊢
        simp [startE, i0, i1, isN, isV, h, isi_tup, bLen, c, callEnd, EV.out]
    · rcases lf_tup x with ht | ⟨l, el, hl⟩
      · simp [startE, i0, i1, isN, isV, h, ht, callEnd, EV.out]
      · have c : opCmp .NotEq (.int (l.length : Nat)) (.int 2) = some true := by
          simp only [opCmp, opEq_int]
          simp; omega
        rw [el] at i0 i1 ⊢
        simp [startE, i0, i1, isN, isV, h, isi_tup, bLen, c, callEnd, EV.out]
  | .app h s as, n, hs, μ => by
    simp only [sz] at hs
    have hF := l_thingss as n (by omega)
    rw [show n + 3 + dep (.app h s as) = (n + 1 + deps as + 2) + 1 by simp only [dep]; omega]
    rw [show n + 3 + deps as = n + 1 + deps as + 2 by omega] at hF
    generalize n + 1 + deps as = k at hF ⊢
    rw [run_at (nl := 7) (b := P__law_things) (by rfl)]
    unfold P__law_things
    have i0 := l_int (n := k + 1) (μ := μ) (.app h s as)
    have i1 := l_var (n := k) (μ := μ) (.app h s as)
    have ed : (Vl.app h s as).d = .tup [hdD h, secD s (vds as)] := rfl
    have x1 : opIx (.tup [hdD h, secD s (vds as)]) (.int 1) = some (.dat (secD s (vds as))) := ix1
    rw [ed] at i0 i1 ⊢
    have c : opCmp .NotEq (.int 2) (.int 2) = some false := by decide +kernel
    have w : wf false (.app h s as) = (hdK h != 0 && isT s && wfs as) := by simp only [wf]
    unfold thO
    rw [w]
    cases ht : isT s with
    | false => simp [startE, i0, i1, isN, isV, isi_tup, bLen, c, x1, isi_sec, ht, callEnd, EV.out]
    | true =>
      obtain rfl : s = .tup := by
        cases s with
        | tup => rfl
        | lst => cases ht
        | non => cases ht
      simp only [secD] at i0 i1 x1 ⊢
      have hn := hl_name (n := k) (μ := μ) h
      have hv := hl_var (n := k) (μ := μ) h
      have x1' : opIx (.tup [hdD h, .tup (vds as)]) (.int 1) = some (.dat (.tup (vds as))) := x1
      have its : isi .tuple (.tup (vds as)) = true := rfl
      have lz := ths_len as
      have ll := len_szs as
      rcases hdK_all h with k0 | k0 | k0
      · rw [k0] at hn hv
        simp [startE, i0, i1, isN, isV, isi_tup, bLen, c, x1', its, hn, hv, k0, callEnd, EV.out]
      · rw [k0] at hn hv
        obtain ⟨Y, kf', q4, q5, q6, e1, e2, e3⟩ := th_loop (n := k) as (some (.dat (.tup [hdD h, .tup (vds as)]))) (some (.dat (hdD h))) as [] (as.length + 1) μ.length (μ ++ [cL [.tup [.str "name", hdD h]]]) [.tup [.str "name", hdD h]] none none none rfl (by simp) (by simp; omega) (by omega) hF
        have tz : thD (.app h .tup as) = D.tup [.str "name", hdD h] :: (ths as).map Ti.d := by simp [thD, th, k0, Ti.d, sn, hd_str h (by omega)]
        simp only [List.length_nil] at e1
        unfold thB cL at e1
        by_cases wq : wfs as = true
        · rw [if_pos wq] at e1
          have e2 := e2 wq
          simp only [cL] at e2
          have nl : ¬ kf' < μ.length := by rw [List.length_append] at e3; omega
          rw [List.append_assoc, List.singleton_append] at e2
          simp [startE, i0, i1, isN, isV, isi_tup, bLen, c, x1', hn, hv, k0, enumD_len, vds_len, isTx, Src.enum, Src.len, Src.at, e1, e2, nl, wq, tz, callEnd, EV.out]
        · rw [if_neg wq] at e1
          simp [startE, i0, i1, isN, isV, isi_tup, bLen, c, x1', hn, hv, k0, enumD_len, vds_len, isTx, Src.enum, Src.len, Src.at, e1, wq, callEnd, EV.out]
      · rw [k0] at hn hv
        obtain ⟨Y, kf', q4, q5, q6, e1, e2, e3⟩ := th_loop (n := k) as (some (.dat (.tup [hdD h, .tup (vds as)]))) (some (.dat (hdD h))) as [] (as.length + 1) μ.length (μ ++ [cL [.tup [.str "head", hdD h]]]) [.tup [.str "head", hdD h]] none none none rfl (by simp) (by simp; omega) (by omega) hF
        have tz : thD (.app h .tup as) = D.tup [.str "head", hdD h] :: (ths as).map Ti.d := by simp [thD, th, k0, Ti.d, sn, hd_str h (by omega)]
        simp only [List.length_nil] at e1
        unfold thB cL at e1
        by_cases wq : wfs as = true
        · rw [if_pos wq] at e1
          have e2 := e2 wq
          simp only [cL] at e2
          have nl : ¬ kf' < μ.length := by rw [List.length_append] at e3; omega
          rw [List.append_assoc, List.singleton_append] at e2
          simp [startE, i0, i1, isN, isV, isi_tup, bLen, c, x1', hn, hv, k0, enumD_len, vds_len, isTx, Src.enum, Src.len, Src.at, e1, e2, nl, wq, tz, callEnd, EV.out]
        · rw [if_neg wq] at e1
          simp [startE, i0, i1, isN, isV, isi_tup, bLen, c, x1', hn, hv, k0, enumD_len, vds_len, isTx, Src.enum, Src.len, Src.at, e1, wq, callEnd, EV.out]
theorem l_thingss : ∀ (ts : List Vl) (n : Nat), szs ts ≤ 900 → ∀ t ∈ ts, ∀ μ : Sto, VM.run T (n + 3 + deps ts) 21 [.dat t.d] μ = .ok (thO t) μ
  | [], _, _, t, h, _ => by simp at h
  | t' :: ts, n, hs, t, h, μ => by
    simp only [szs] at hs
    simp only [deps]
    rcases List.mem_cons.mp h with e | h
    · have := l_things t' (n + (max (dep t') (deps ts) - dep t')) (by omega) μ
      rw [show n + 3 + max (dep t') (deps ts) = n + (max (dep t') (deps ts) - dep t') + 3 + dep t' by omega, e]
      exact this
    · have := l_thingss ts (n + (max (dep t') (deps ts) - deps ts)) (by omega) t h μ
      rw [show n + 3 + max (dep t') (deps ts) = n + (max (dep t') (deps ts) - deps ts) + 3 + deps ts by omega]
      exact this
end
end
end K11
set_option maxHeartbeats 0
/-! k11: the law's own look at the sorts. -/
namespace K11
open VM Law
open L2 (atI ixN)
def ltB : SS := (sIf (bCmp (opCmp .In) (eV 2) (eLst (evs [eC (.str "term"), eC (.str "head"), eC (.str "rest")]))) (sSeq (sIf (bCmp (opCmp .NotEq) (eGet2 (eV 1) (eV 3) (eV 2)) (eV 2)) (sRet (eC (.bl false))) (sPass)) (sAsg (eV 2) (gSb (eV 1) (eV 3)))) (sPass))
theorem in_sorts : ∀ k : Fin 5, opIn (.str (sn k)) (.lst [.str "term", .str "head", .str "rest"]) = some (inS k) := by decide +kernel
theorem filter_mem {l : List Ti} {p : Ti} (h : p ∈ l.filter fun q => inS q.k) : p.k ≠ 0 := fun e => by
  have := (List.mem_filter.mp h).2
  rw [e] at this
  cases this
section
variable {n : Nat} {μ : Sto}
theorem lt_loop {F : Fns} {S : Src} {L : List Ti} (hat : ∀ E : Sto, S.at (μ ++ E) = some (L.map Ti.d)) (hl : L.length ≤ 900) (o0 : Option SV) : ∀ (m i : Nat) (ks : List L2.Key) (o2 o3 : Option SV), i ≤ L.length → L.length < i + m → ks.length ≤ i → ndK ks = true →
    (∀ p ∈ (L.take i).filter (fun q => inS q.k), dhas ks (.inr p.x) = true) →
    ∃ (ρ' : Env) (c : Cell), forL F S (gTp [gNm 2, gNm 3]) ltB m i [o0, some (.cel μ.length), o2, o3] (μ ++ [⟨true, .dic ks (ks.map (gF (L.filter fun q => inS q.k)))⟩]) =
      .ok (if ((L.drop i).filter fun q => inS q.k).all (fun p => frs (L.filter fun q => inS q.k) p.x == p.k) = true then .nx ρ' else .rt (.dat (.bl false))) (μ ++ [c])
  | 0, i, ks, o2, o3, h1, h2, _, _, _ => by omega
  | m + 1, i, ks, o2, o3, h1, h2, h3, h4, h5 => by
    unfold forL
    rw [hat]
    simp only [List.getElem?_map]
    cases e : L[i]? with
    | none =>
      have : L.length ≤ i := List.getElem?_eq_none_iff.mp e
      refine ⟨[o0, some (.cel μ.length), o2, o3], ⟨true, .dic ks (ks.map (gF (L.filter fun q => inS q.k)))⟩, ?_⟩
      rw [List.drop_eq_nil_of_le this]; rfl
    | some p =>
      obtain ⟨hi, ep⟩ := List.getElem?_eq_some_iff.mp e
      have hdr : L.drop i = p :: L.drop (i + 1) := by rw [← ep]; exact (List.drop_eq_getElem_cons hi)
      have htk : L.take (i + 1) = L.take i ++ [p] := by rw [List.take_add_one, e]; rfl
      have hks : ks.length < LIM := lim2 (by omega)
      simp only [Option.map_some]
      rw [hdr]
      generalize hFd : (L.filter fun q => inS q.k) = Fd at *
      by_cases hin : inS p.k = true
      · have hp : p.k ≠ 0 := fun e => by rw [e] at hin; cases hin
        have pd := ti_d hp
        rw [List.filter_cons_of_pos (by exact hin), List.all_cons]
        have inx := in_sorts p.k
        rw [hin] at inx
        have pg := dput_g (g := gF Fd) ks (Sum.inr p.x : L2.Key)
        have hkk : (ndK ks && decide (ks.length < LIM)) = true := by rw [h4, Bool.true_and]; exact decide_eq_true hks
        have eF : Fd = (L.take i).filter (fun q => inS q.k) ++ p :: (L.drop (i + 1)).filter fun q => inS q.k := by
          rw [← hFd]
          conv => lhs; rw [← List.take_append_drop i L, hdr, List.filter_append, List.filter_cons_of_pos (by exact hin)]
        by_cases c : dhas ks (.inr p.x) = true
        · rw [if_pos c] at pg
          by_cases hf : (frs Fd p.x == p.k) = true
          · have hf' : frs Fd p.x = p.k := by simpa using hf
            have pt : putAt (.dic ks (ks.map (gF Fd))) (.str p.x) (.str (sn p.k)) = some (.dic ks (ks.map (gF Fd))) := by
              simp only [putAt, D.key, hkk, if_true]
              rw [show D.str (sn p.k) = gF Fd (Sum.inr p.x : L2.Key) by simp only [gF]; rw [hf'], pg]
            obtain ⟨ρ', c9, ih⟩ := lt_loop (F := F) hat hl o0 m (i + 1) ks (some (.dat (.str (sn p.k)))) (some (.dat (.str p.x))) (by omega) (by omega) (by omega) h4 fun q hq => by
              rw [htk, List.filter_append] at hq
              rcases List.mem_append.mp hq with hq | hq
              · exact h5 q hq
              · rw [List.filter_cons_of_pos (by exact hin)] at hq
                rw [List.mem_singleton.mp hq]; exact c
            rw [hFd] at ih
            refine ⟨ρ', c9, ?_⟩
            rw [hf, Bool.true_and, pd]
            unfold ltB at ih ⊢
            simp [inx, eGet2, EV.see, D.key, h4, hks, dget_g, c, gF, opCmp, sn_eq, hf', gSb, pt, ih]
          · have hf' : (frs Fd p.x == p.k) = false := by simpa using hf
            refine ⟨[], ⟨true, .dic ks (ks.map (gF Fd))⟩, ?_⟩
            rw [hf', Bool.false_and, pd]
            unfold ltB
            simp [inx, eGet2, EV.see, D.key, h4, hks, dget_g, c, gF, opCmp, sn_eq, hf']
        · have c' : dhas ks (.inr p.x) = false := by simpa using c
          rw [if_neg c] at pg
          have hf' : frs Fd p.x = p.k := by
            rw [eF]
            refine frs_at fun q hq ne => ?_
            have := h5 q hq
            rw [ne] at this
            exact c this
          have pt : putAt (.dic ks (ks.map (gF Fd))) (.str p.x) (.str (sn p.k)) = some (.dic (ks ++ [.inr p.x]) ((ks ++ [(.inr p.x : L2.Key)]).map (gF Fd))) := by
            simp only [putAt, D.key, hkk, if_true]
            rw [show D.str (sn p.k) = gF Fd (Sum.inr p.x : L2.Key) by simp only [gF]; rw [hf'], pg]
          obtain ⟨ρ', c9, ih⟩ := lt_loop (F := F) hat hl o0 m (i + 1) (ks ++ [.inr p.x]) (some (.dat (.str (sn p.k)))) (some (.dat (.str p.x))) (by omega) (by omega) (by rw [List.length_append]; simp; omega) (ndK_app ks _ h4 c') fun q hq => by
            rw [htk, List.filter_append] at hq
            rw [dhas_app]
            rcases List.mem_append.mp hq with hq | hq
            · rw [h5 q hq, Bool.true_or]
            · rw [List.filter_cons_of_pos (by exact hin)] at hq
              rw [List.mem_singleton.mp hq, keyEq_iff.mpr rfl, Bool.or_true]
          rw [hFd] at ih
          refine ⟨ρ', c9, ?_⟩
          have hf : (frs Fd p.x == p.k) = true := by simpa using hf'
          rw [hf, Bool.true_and, pd]
          unfold ltB at ih ⊢
          have e9 : gF Fd (.inr p.x) = .str (sn p.k) := by simp only [gF]; rw [hf']
          simp only [List.map_append, List.map_cons, List.map_nil, e9] at ih pt
          simp [inx, eGet2, EV.see, D.key, h4, hks, dget_g, c', gF, opCmp, sn_eq, hf', gSb, pt, ih]
      · have hin' : inS p.k = false := by simpa using hin
        have inx := in_sorts p.k
        rw [hin'] at inx
        rw [List.filter_cons_of_neg (by simp [hin'])]
        obtain ⟨ρ', c9, ih⟩ := lt_loop (F := F) hat hl o0 m (i + 1) ks (some (.dat (.str (sn p.k)))) (some (.dat (if p.k = 0 then .int p.i else .str p.x))) (by omega) (by omega) (by omega) h4 fun q hq => by
          rw [htk, List.filter_append] at hq
          rcases List.mem_append.mp hq with hq | hq
          · exact h5 q hq
          · rw [List.filter_cons_of_neg (by simp [hin'])] at hq
            simp at hq
        rw [hFd] at ih
        refine ⟨ρ', c9, ?_⟩
        unfold ltB at ih ⊢
        simp [Ti.d, opCmp, inx, ih]
theorem l_isTermN : VM.run T (n + 1) 22 [.dat .non] μ = .ok (.dat (.bl false)) μ := pure_of (by kernel_rfl)
theorem l_isTermL {sv : SV} {L : List Ti} (hs : Sq sv (L.map Ti.d) μ) (hl : L.length ≤ 900) : VM.run T (n + 1) 22 [sv] μ = .ok (.dat (.bl (oneOk (L.filter fun q => inS q.k)))) μ := by
  rw [run_at (nl := 4) (b := P__law_is_term) (by rfl)]
  unfold P__law_is_term
  obtain ⟨S, so, sa⟩ := hs.src
  obtain ⟨ρ', c, e⟩ := lt_loop (F := VM.run T n) (S := S) (fun E => (sa E).1) hl (some sv) (L.length + 1) 0 [] none none (Nat.zero_le _) (by omega) (Nat.zero_le _) rfl (by simp)
  have sl := (sa [⟨true, .dic [] []⟩]).2
  have so := so [⟨true, .dic [] []⟩]
  have se := hs.see []
  rw [List.append_nil] at se
  rw [List.length_map] at sl
  simp only [List.map_nil, List.drop_zero] at e
  unfold ltB at e
  by_cases w : oneOk (L.filter fun q => inS q.k) = true
  · have w2 := w
    unfold oneOk at w2
    rw [if_pos w2] at e
    rw [w]
    simp [startE, se, opCmp, is_lst, so, sl, e, callEnd, EV.out]
  · have w2 := w
    unfold oneOk at w2
    rw [if_neg w2] at e
    have w' : oneOk (L.filter fun q => inS q.k) = false := by simpa using w
    rw [w']
    simp [startE, se, opCmp, is_lst, so, sl, e, callEnd, EV.out]
end
end K11
set_option maxHeartbeats 0
/-! k11: pieces, numbers, names. -/
namespace K11
open VM Law
open L2 (atI ixN)
mutual
/-- the parts with their levels, from the left -/
def pcs : Nat → Vl → List (Vl × Nat)
  | l, .lf x => [(.lf x, l)]
  | l, .app h s as => (.app h s as, l) :: pcss (l + 1) as
def pcss : Nat → List Vl → List (Vl × Nat)
  | _, [] => []
  | l, t :: ts => pcs l t ++ pcss l ts
end
def encP (p : Vl × Nat) : D := .tup [p.1.d, .int p.2]
def kidP (p : Vl × Nat) : List (Vl × Nat) := match p.1 with
  | .app _ _ as => as.map fun t => (t, p.2 + 1)
  | _ => []
theorem pcss_flat : ∀ (l : Nat) (ts : List Vl), pcss l ts = (ts.map fun t => (t, l)).flatMap fun p => pcs p.2 p.1
  | _, [] => by simp [pcss]
  | l, t :: ts => by simp only [pcss, List.map_cons, List.flatMap_cons]; rw [pcss_flat l ts]
theorem wfs_mem : ∀ {ts : List Vl} {t : Vl}, wfs ts = true → t ∈ ts → ∃ l, wf l t = true
  | t' :: ts, t, h, hm => by
    simp only [wfs, Bool.and_eq_true] at h
    rcases List.mem_cons.mp hm with e | hm
    · exact ⟨_, by rw [e]; exact h.1⟩
    · exact wfs_mem h.2 hm
mutual
theorem pcs_len : ∀ (l : Nat) (t : Vl), (pcs l t).length = sz t
  | l, .lf x => by simp [pcs, sz]
  | l, .app h s as => by simp only [pcs, sz, List.length_cons, pcss_len]; omega
theorem pcss_len : ∀ (l : Nat) (ts : List Vl), (pcss l ts).length = szs ts
  | _, [] => by simp [pcss, szs]
  | l, t :: ts => by simp only [pcss, szs, List.length_append, pcs_len, pcss_len]
end
theorem lc_src {μ : Sto} {S : Src} {s : List D} {step : D → Sto → Res (Option D)} (h : S.at μ = some s) (hs : ∀ d ∈ s, ∃ o, step d μ = .ok o μ) : ∀ (m i : Nat), lcLoop S step m i μ = lcLoop (.vals s) step m i μ
  | 0, i => by unfold lcLoop; rfl
  | m + 1, i => by
    unfold lcLoop
    rw [h]
    simp only [src_vals]
    cases e : s[i]? with
    | none => rfl
    | some d =>
      obtain ⟨o, e1⟩ := hs d (List.mem_of_getElem? e)
      simp only [e1, Res.bind_ok]
      rw [lc_src h hs m (i + 1)]
theorem lc_enc {μ : Sto} {α : Type} {enc : α → D} {S : Src} {Q : List α} {step : D → Sto → Res (Option D)} {f : α → D} {c : α → Bool} (hS : S.at μ = some (Q.map enc)) (h : ∀ q ∈ Q, step (enc q) μ = .ok (if c q then some (f q) else none) μ) (hl : Q.length ≤ 900) :
    lcLoop S step (Q.length + 1) 0 μ = .ok ((Q.filter c).map f) μ := by
  rw [lc_src hS (fun d hd => by
    obtain ⟨q, hq, rfl⟩ := List.mem_map.mp hd
    exact ⟨_, h q hq⟩)]
  have e := lc_pure (s := Q.map enc) (step := step) (g := fun d => match step d μ with | .ok o _ => o | _ => none) (μ := μ) (fun d hd => by
    obtain ⟨q, hq, rfl⟩ := List.mem_map.mp hd
    rw [h q hq]) (Q.length + 1) 0 (Nat.zero_le _) (by rw [List.length_map]; omega) (by rw [List.length_map]; exact lim1 (by omega))
  rw [e, List.drop_zero]
  congr 1
  clear e hl hS
  induction Q with
  | nil => rfl
  | cons q Q ih =>
    simp only [List.map_cons, List.filterMap_cons, h q List.mem_cons_self]
    rw [ih fun u hu => h u (List.mem_cons_of_mem _ hu)]
    cases hc : c q <;> simp [List.filter_cons, hc]
section
variable {n : Nat} {μ : Sto}
theorem s_pieces (t : Vl) (hw : ∃ l, wf l t = true) (hs : sz t ≤ 900) : VM.run T (n + 2) 8 [.dat t.d] μ = .ok (.new (.lst ((pcs 1 t).map encP))) μ := by
  rw [run_at (nl := 6) (b := P_pieces) (by rfl)]
  unfold P_pieces
  have loop := stack_loop (μ := μ) encP (fun p => [encP p]) kidP (fun p => (pcs p.2 p.1).map encP) (fun p => sz p.1) (fun p => ∃ l, wf l p.1 = true) (fun ρ => ∃ o0 o3 o4 o5, ρ = [o0, some (.cel μ.length), some (.cel (μ.length + 1)), o3, o4, o5]) 900
    (c := (bCmp (opCmp .NotEq) (eV 2) (eLst (evs []))) (VM.run T (n + 1)))
    (b := (sSeq (sAsg (eCM aPop (eV 2) (evs [])) (gTp [gNm 3, gNm 4])) (sSeq (sDrop (eCM aAppend (eV 1) (evs [eTup (evs [eV 3, eV 4])]))) (sIf (bTru (eCall 5 (evs [eV 3]))) (sDrop (eCM aExtend (eV 2) (evs [eLc (iOf (eRev (eIx (eV 3) (eC (.int 1))))) (.nm 5) (bYes) (eTup (evs [eV 5, eBin .Add (eV 4) (eC (.int 1))])) [5]]))) (sPass)))) (VM.run T (n + 1)))
    ?_ ?_ ?_ ?_ ?_ ?_ (sz t) LIM [some (.dat t.d), some (.cel μ.length), some (.cel (μ.length + 1)), none, none, none] [] [(t, 1)] ⟨_, _, _, _, rfl⟩ (by simpa using hw) (by simp) (lim2 (by omega)) (by simpa using hs)
  · obtain ⟨ρ', ⟨o0, o3, o4, o5, rfl⟩, e⟩ := loop
    simp [startE]
    simp [stk, encP] at e
    rw [e]
    simp [callEnd, EV.out, encP]
  · rintro ⟨t, l⟩ _
    cases t with
    | lf x => simp [pcs, kidP]
    | app h s as =>
      simp only [pcs, kidP, List.map_cons, pcss_flat]
      rw [← List.map_flatMap]; rfl
  · rintro ⟨t, l⟩ _
    cases t <;> simp [sz, kidP]
    rw [szs_sum]
    simp [Function.comp_def]
  · rintro ⟨t, l⟩ _
    cases t <;> simp [sz, kidP]
    rw [szs_sum]
    simp [Function.comp_def]
  · rintro ⟨t, l⟩ ⟨l0, h⟩ ⟨t', l'⟩ hy
    cases t with
    | lf x => simp [kidP] at hy
    | app hh s as =>
      have h : wf l0 (.app hh s as) = true := h
      simp only [wf, Bool.and_eq_true] at h
      simp only [kidP] at hy
      obtain ⟨t0, hm0, e0⟩ := List.mem_map.mp hy
      cases e0
      exact wfs_mem h.2 hm0
  · rintro ρ Fd L ⟨o0, o3, o4, o5, rfl⟩ hg
    simp [stk, EV.see, ne_nil]
  · rintro ρ Fd ⟨t, l⟩ L ⟨o0, o3, o4, o5, rfl⟩ hg hgl hB
    refine ⟨[o0, some (.cel μ.length), some (.cel (μ.length + 1)), some (.dat t.d), some (.dat (.int l)), o5], ⟨_, _, _, _, rfl⟩, ?_⟩
    have hF : Fd.length < LIM := lim2 (by have := sz_pos t; omega)
    cases t with
    | lf x => simp [stk, encP, aAppend_c hF, v_app, isA, kidP]
    | app h s as =>
      obtain ⟨l0, hw⟩ := hg
      have hw : wf l0 (.app h s as) = true := hw
      simp only [wf, Bool.and_eq_true] at hw
      obtain rfl : s = .tup := by
        cases s with
        | tup => rfl
        | lst => exact absurd hw.1.2 (by decide)
        | non => exact absurd hw.1.2 (by decide)
      have hl : as.length ≤ szs as := len_szs as
      have hB' : szs as ≤ 900 := by
        simp only [sz] at hB
        omega
      have hdl : (vds as).length = as.length := vds_len as
      have lc := lc_map (s := (vds as).reverse) (step := lcStep (VM.run T (n + 1)) (.nm 5) bYes (eTup (evs [eV 5, eBin .Add (eV 4) (eC (.int 1))])) (wipeE [o0, some (.cel μ.length), some (.cel (μ.length + 1)), some (.dat (Vl.app h .tup as).d), some (.dat (.int l)), o5] [5]))
        (g := fun d => .tup [d, .int (l + 1)]) (μ := μ ++ [⟨true, .lst (Fd ++ [.tup [(Vl.app h .tup as).d, .int l]])⟩, ⟨true, .lst (L.map encP).reverse⟩]) (fun d hd => by simp [wipeE, asg, addI]) (by rw [List.length_reverse, hdl]; exact lim1 (by omega))
      rw [List.length_reverse] at lc
      have ixa : opIx (Vl.app h .tup as).d (.int 1) = some (.dat (.tup (vds as))) := ix_app1
      have hLl : (L.map encP).length ≤ 900 := by
        have : L.length ≤ (L.map fun p => sz p.1).sum := by
          clear hB hgl lc
          induction L with
          | nil => simp
          | cons a L ih =>
            have := sz_pos a.1
            simp only [List.map_cons, List.sum_cons, List.length_cons]
            omega
        rw [List.length_map]
        omega
      have ex := aExtend_c (l := (L.map encP).reverse) (e := ((vds as).map fun d => .tup [d, .int (l + 1)]).reverse) (by
        rw [List.length_reverse, List.length_reverse, List.length_map (as := vds as), hdl]
        exact Nat.le_trans (Nat.add_le_add hLl (by omega : as.length ≤ 900)) (by decide))
      have lm : (vds as).length ≤ LIM := by rw [hdl]; exact lim1 (by omega)
      have fin : (List.map encP (kidP (Vl.app h .tup as, l))) = (vds as).map fun d => D.tup [d, .int (l + 1)] := by
        simp [kidP, vds_map, encP]
      simp only [stk, List.map_append, fin, List.reverse_append, List.map_cons, List.reverse_cons]
      simp [encP, aAppend_c hF, v_app, isA, ixa, lc, lm, ex]
end
/-- the numbers and the names that stand in it -/
def numI (t : Vl) : List Int := ((th t).filter fun p => p.k == 0).map fun p => p.i
def namS (t : Vl) : List PySem.Str := ((th t).filter fun p => p.k == 2).map fun p => p.x
def isNm : Vl → Bool
  | .app h _ _ => hdK h == 1
  | _ => false
def hdOf : Vl → D
  | .app h _ _ => hdD h
  | .lf _ => .non
mutual
theorem pcs_num : ∀ (l : Nat) (t : Vl) (l0 : Bool), wf l0 t = true → ((pcs l t).filter fun p => isN p.1).map (fun p => p.1.d) = ((th t).filter fun p => p.k == 0).map fun p => .int p.i
  | l, .lf x, l0, h => by
    simp only [wf] at h
    rcases lfK_all x with k | k | k | k
    · simp [pcs, th, isN, k, Vl.d, lf_num x k]
    · simp [pcs, th, isN, k]
    · simp [pcs, th, isN, k]
    · simp [k] at h
  | l, .app h s as, l0, hw => by
    simp only [wf, Bool.and_eq_true] at hw
    have ih := pcss_num (l + 1) as hw.2
    simp only [pcs, th]
    rw [List.filter_cons_of_neg (by simp [isN]), List.filter_cons_of_neg (by split <;> simp), ih]
theorem pcss_num : ∀ (l : Nat) (ts : List Vl), wfs ts = true → ((pcss l ts).filter fun p => isN p.1).map (fun p => p.1.d) = ((ths ts).filter fun p => p.k == 0).map fun p => .int p.i
  | _, [], _ => by simp [pcss, ths]
  | l, t :: ts, h => by
    simp only [wfs, Bool.and_eq_true] at h
    simp only [pcss, ths, List.filter_append, List.map_append]
    rw [pcs_num l t _ h.1, pcss_num l ts h.2]
end
mutual
theorem pcs_nam : ∀ (l : Nat) (t : Vl) (l0 : Bool), wf l0 t = true → ((pcs l t).filter fun p => isNm p.1).map (fun p => hdOf p.1) = ((th t).filter fun p => p.k == 2).map fun p => .str p.x
  | l, .lf x, l0, h => by
    simp only [th, pcs]
    split
    · simp [isNm]
    · split <;> simp [isNm]
  | l, .app h s as, l0, hw => by
    simp only [wf, Bool.and_eq_true] at hw
    have ih := pcss_nam (l + 1) as hw.2
    simp only [pcs, th]
    by_cases k : hdK h = 1
    · rw [List.filter_cons_of_pos (by simp [isNm, k]), List.filter_cons_of_pos (by simp [k]), List.map_cons, List.map_cons, ih]
      simp [hdOf, hd_str h (by omega)]
    · rw [List.filter_cons_of_neg (by simp [isNm, k]), List.filter_cons_of_neg (by simp [k]), ih]
theorem pcss_nam : ∀ (l : Nat) (ts : List Vl), wfs ts = true → ((pcss l ts).filter fun p => isNm p.1).map (fun p => hdOf p.1) = ((ths ts).filter fun p => p.k == 2).map fun p => .str p.x
  | _, [], _ => by simp [pcss, ths]
  | l, t :: ts, h => by
    simp only [wfs, Bool.and_eq_true] at h
    simp only [pcss, ths, List.filter_append, List.map_append]
    rw [pcs_nam l t _ h.1, pcss_nam l ts h.2]
end
mutual
theorem th_nam : ∀ (t : Vl) (p : Ti), p ∈ th t → p.k = 2 → ∃ h : Hd, hdK h = 1 ∧ p.x = hdS h
  | .lf x, p, hp, hk => by
    simp only [th] at hp
    split at hp
    · rw [List.mem_singleton.mp hp] at hk; cases hk
    · split at hp <;> (rw [List.mem_singleton.mp hp] at hk; cases hk)
  | .app h s as, p, hp, hk => by
    simp only [th] at hp
    rcases List.mem_cons.mp hp with e | hp
    · rw [e] at hk ⊢
      by_cases k : hdK h = 1
      · exact ⟨h, k, rfl⟩
      · simp [k] at hk
    · exact ths_nam as p hp hk
theorem ths_nam : ∀ (ts : List Vl) (p : Ti), p ∈ ths ts → p.k = 2 → ∃ h : Hd, hdK h = 1 ∧ p.x = hdS h
  | [], p, hp, _ => by simp [ths] at hp
  | t :: ts, p, hp, hk => by
    simp only [ths] at hp
    rcases List.mem_append.mp hp with hp | hp
    · exact th_nam t p hp hk
    · exact ths_nam ts p hp hk
end
theorem nam_hd {t : Vl} {x : PySem.Str} (h : x ∈ namS t) : ∃ k : Hd, hdK k = 1 ∧ x = hdS k := by
  obtain ⟨p, hp, rfl⟩ := List.mem_map.mp h
  obtain ⟨h1, h2⟩ := List.mem_filter.mp hp
  exact th_nam t p h1 (by simpa using h2)
/-- begins as a fresh name -/
def zzS (x : PySem.Str) : Bool := match opSl (.str x) none (some 2) with
  | some (.dat y) => opCmp .Eq y (.str "zz") == some true
  | _ => false
theorem zz_ok {x : PySem.Str} (h : ∃ k : Hd, hdK k = 1 ∧ x = hdS k) : ∃ y : PySem.Str, opSl (.str x) none (some 2) = some (.dat (.str y)) ∧ opCmp .Eq (.str y) (.str "zz") = some (zzS x) ∧ opCmp .NotEq (.str y) (.str "zz") = some (!zzS x) := by
  obtain ⟨k, hk, rfl⟩ := h
  obtain ⟨y, h1, h2, h3⟩ := hd_cut k hk
  have : zzS (hdS k) = hdZ k := by
    unfold zzS
    rw [h1]
    show (opCmp .Eq (.str y) (.str "zz") == some true) = hdZ k
    rw [h2]
    cases hdZ k <;> rfl
  exact ⟨y, h1, by rw [h2, this], by rw [h3, this]⟩
end K11
set_option maxHeartbeats 0
/-! k11: is_pattern, and what is due. -/
namespace K11
open VM Law
open L2 (atI ixN)
theorem intsD_map : ∀ l : List Int, intsD (l.map .int) = some l
  | [] => rfl
  | a :: l => by simp only [List.map_cons, intsD, intsD_map l]; rfl
theorem strsD_map : ∀ l : List PySem.Str, strsD (l.map .str) = some l
  | [] => rfl
  | a :: l => by simp only [List.map_cons, strsD, strsD_map l]; rfl
theorem sset_int {l : List Int} (h : l.length < 4000) : fSset [.lst (l.map .int)] = some (.new (.lst ((sortU ltI l).map .int))) := by
  unfold fSset
  simp only [List.length_map, h, if_true, intsD_map]
theorem sset_str {l : List PySem.Str} (h : l.length < 4000) : fSset [.lst (l.map .str)] = some (.new (.lst ((sortU ltS l).map .str))) := by
  unfold fSset
  simp only [List.length_map, h, if_true]
  cases l with
  | nil => rfl
  | cons a l =>
    have : intsD ((a :: l).map .str) = none := rfl
    rw [this]
    simp only [strsD_map]; rfl
/-- sorting loses and adds nothing -/
theorem mem_insU {κ : Type} {lt : κ → κ → Bool} (tri : ∀ a b, lt a b = false → lt b a = false → a = b) {k x : κ} : ∀ {l : List κ}, k ∈ insU lt x l ↔ k = x ∨ k ∈ l
  | [] => by simp [insU]
  | y :: ys => by
    unfold insU
    by_cases h1 : lt x y = true
    · rw [if_pos h1, List.mem_cons]
    · rw [if_neg h1]
      by_cases h2 : lt y x = true
      · rw [if_pos h2, List.mem_cons, mem_insU tri (l := ys), List.mem_cons]
        exact ⟨fun h => h.elim (fun h => .inr (.inl h)) fun h => h.elim .inl fun h => .inr (.inr h), fun h => h.elim (fun h => .inr (.inl h)) fun h => h.elim .inl fun h => .inr (.inr h)⟩
      · rw [if_neg h2]
        have e : x = y := tri _ _ (by simpa using h1) (by simpa using h2)
        subst e
        exact ⟨.inr, fun h => h.elim (fun h => h ▸ List.mem_cons_self) id⟩
theorem mem_sortU {κ : Type} {lt : κ → κ → Bool} (tri : ∀ a b, lt a b = false → lt b a = false → a = b) {k : κ} : ∀ {l : List κ}, k ∈ sortU lt l ↔ k ∈ l
  | [] => by simp [sortU]
  | x :: l => by rw [sortU, mem_insU tri, mem_sortU tri, List.mem_cons]
theorem triI (a b : Int) (h1 : ltI a b = false) (h2 : ltI b a = false) : a = b := by
  simp only [ltI, decide_eq_false_iff_not] at *; omega
theorem triS (a b : PySem.Str) (h1 : ltS a b = false) (h2 : ltS b a = false) : a = b := by
  have e : a.cps.toList = b.cps.toList := PyProof.Rows.strKind.total a.cps.toList b.cps.toList h1 h2
  cases a; cases b
  exact congrArg PySem.Str.mk (Array.toList_inj.mp e)
theorem len_insU {κ : Type} {lt : κ → κ → Bool} {x : κ} : ∀ {l : List κ}, (insU lt x l).length ≤ l.length + 1
  | [] => by simp [insU]
  | y :: ys => by
    unfold insU
    split
    · simp
    · split
      · have := len_insU (lt := lt) (x := x) (l := ys); simp; omega
      · simp
theorem len_sortU {κ : Type} {lt : κ → κ → Bool} : ∀ {l : List κ}, (sortU lt l).length ≤ l.length
  | [] => by simp [sortU]
  | x :: l => by
    have h1 := len_insU (lt := lt) (x := x) (l := sortU lt l)
    have h2 := len_sortU (lt := lt) (l := l)
    rw [sortU, List.length_cons]; omega
theorem all_same {κ : Type} {l m : List κ} {f : κ → Bool} (h : ∀ k, k ∈ l ↔ k ∈ m) : l.all f = m.all f := by
  rw [Bool.eq_iff_iff, List.all_eq_true, List.all_eq_true]
  exact ⟨fun a k hk => a k ((h k).2 hk), fun a k hk => a k ((h k).1 hk)⟩
theorem flt_all {α : Type} (l : List α) : l.filter (fun _ => true) = l := List.filter_eq_self.mpr (by simp)
theorem numI_len (t : Vl) : (numI t).length ≤ sz t := by
  unfold numI
  rw [List.length_map]
  exact Nat.le_trans (List.length_filter_le _ _) (th_len t)
theorem namS_len (t : Vl) : (namS t).length ≤ sz t := by
  unfold namS
  rw [List.length_map]
  exact Nat.le_trans (List.length_filter_le _ _) (th_len t)
def small (t : Vl) : Bool := (numI t).all fun i => decide (-999 ≤ i) && decide (i ≤ 999)
def noZ (t : Vl) : Bool := (namS t).all fun x => !zzS x
section
variable {n : Nat} {μ : Sto}
theorem s_numbers (t : Vl) (hw : ∃ l, wf l t = true) (hs : sz t ≤ 450) : VM.run T (n + 3) 9 [.dat t.d] μ = .ok (.new (.lst ((sortU ltI (numI t)).map .int))) μ := by
  obtain ⟨l0, hw0⟩ := id hw
  rw [run_at (nl := 3) (b := P_numbers_of) (by rfl)]
  unfold P_numbers_of
  have e := s_pieces (n := n) (μ := μ) t hw (by omega)
  have lc := lc_enc (μ := μ) (S := .vals ((pcs 1 t).map encP)) (enc := encP) (Q := pcs 1 t) (step := lcStep (VM.run T (n + 2)) (.tup [.nm 1, .nm 2]) (bTru (eCall 0 (evs [eV 1]))) (eV 1) (wipeE [some (.dat t.d), none, none] [1, 2])) (f := fun p => p.1.d) (c := fun p => isN p.1) rfl
    (fun q _ => by cases h : isN q.1 <;> simp [wipeE, encP, asg, asgs, v_int, h]) (by rw [pcs_len]; omega)
  rw [pcs_num 1 t l0 hw0] at lc
  have ei : ((th t).filter fun p => p.k == 0).map (fun p => D.int p.i) = (numI t).map .int := by unfold numI; rw [List.map_map]; rfl
  rw [ei, pcs_len] at lc
  have hl := numI_len t
  have ss := sset_int (l := numI t) (by omega)
  have hm : (numI t).length ≤ LIM := lim1 (by omega)
  simp [wipeE] at lc
  simp [startE, e, wipeE, pcs_len, lc, ss, hm, callEnd, EV.out]
theorem s_names (t : Vl) (hw : ∃ l, wf l t = true) (hs : sz t ≤ 450) : VM.run T (n + 3) 10 [.dat t.d] μ = .ok (.new (.lst ((sortU ltS (namS t)).map .str))) μ := by
  obtain ⟨l0, hw0⟩ := id hw
  rw [run_at (nl := 3) (b := P_names_of) (by rfl)]
  unfold P_names_of
  have e := s_pieces (n := n) (μ := μ) t hw (by omega)
  have lc := lc_enc (μ := μ) (S := .vals ((pcs 1 t).map encP)) (enc := encP) (Q := pcs 1 t) (step := lcStep (VM.run T (n + 2)) (.tup [.nm 1, .nm 2]) (bAnd (bTru (eCall 5 (evs [eV 1]))) (bTru (eCall 1 (evs [eIx (eV 1) (eC (.int 0))])))) (eIx (eV 1) (eC (.int 0))) (wipeE [some (.dat t.d), none, none] [1, 2])) (f := fun p => hdOf p.1) (c := fun p => isNm p.1) rfl
    (fun q _ => by
      obtain ⟨v, l⟩ := q
      cases v with
      | lf x => simp [wipeE, encP, asg, asgs, v_app, isA, isNm]
      | app h s as => cases hk : (hdK h == 1) <;> simp [wipeE, encP, asg, asgs, v_app, isA, isNm, ix_app0, hd_name, hk, hdOf]) (by rw [pcs_len]; omega)
  rw [pcs_nam 1 t l0 hw0] at lc
  have ei : ((th t).filter fun p => p.k == 2).map (fun p => D.str p.x) = (namS t).map .str := by unfold namS; rw [List.map_map]; rfl
  rw [ei, pcs_len] at lc
  have hl := namS_len t
  have ss := sset_str (l := namS t) (by omega)
  have hm : (namS t).length ≤ LIM := lim1 (by omega)
  simp [wipeE] at lc
  simp [startE, e, wipeE, pcs_len, lc, ss, hm, callEnd, EV.out]
theorem wf_of {t : Vl} (h : isTm t = true) : wf false t = true := by
  unfold isTm at h
  rw [Bool.and_eq_true] at h
  exact h.1
theorem any_not {α : Type} (f : α → Bool) : ∀ l : List α, (!l.any f) = l.all fun x => !f x
  | [] => rfl
  | a :: l => by rw [List.any_cons, List.all_cons, Bool.not_or, any_not f l]
theorem s_isPat (t : Vl) (hs : sz t ≤ 450) : VM.run T (n + 5) 13 [.dat t.d] μ = .ok (.dat (.bl (isTm t && (small t && noZ t)))) μ := by
  rw [run_at (nl := 4) (b := P_is_pattern) (by rfl)]
  unfold P_is_pattern
  have e := s_isTerm (n := n) (μ := μ) t hs
  by_cases w : isTm t = true
  · have hw : ∃ l, wf l t = true := ⟨false, wf_of w⟩
    have e1 := s_numbers (n := n + 1) (μ := μ) t hw hs
    have e2 := s_names (n := n + 1) (μ := μ) t hw hs
    have l1 := numI_len t
    have l2 := namS_len t
    have m1 : ∀ k, k ∈ sortU ltI (numI t) ↔ k ∈ numI t := fun k => mem_sortU triI
    have m2 : ∀ k, k ∈ sortU ltS (namS t) ↔ k ∈ namS t := fun k => mem_sortU triS
    have k1 : (sortU ltI (numI t)).length ≤ 900 := Nat.le_trans len_sortU (by omega)
    have k2 : (sortU ltS (namS t)).length ≤ 900 := Nat.le_trans len_sortU (by omega)
    have lcA := lc_enc (μ := μ) (S := .vals ((sortU ltI (numI t)).map .int)) (enc := D.int) (Q := sortU ltI (numI t)) (step := lcStep (VM.run T (n + 4)) (.nm 2) bYes (eCmp (opCmp .LtE) (eCb bAbs (evs [eV 2])) (eC (.int 999))) (wipeE [some (.dat t.d), none, none, none] [2])) (f := fun i => .bl (decide (-999 ≤ i) && decide (i ≤ 999))) (c := fun _ => true) rfl
      (fun i _ => by
        have : decide ((if i < 0 then -i else i) ≤ 999) = (decide (-999 ≤ i) && decide (i ≤ 999)) := by
          rw [Bool.eq_iff_iff, Bool.and_eq_true, decide_eq_true_iff, decide_eq_true_iff, decide_eq_true_iff]
          split <;> omega
        simp [wipeE, asg, bAbs, opCmp, opI, this]) k1
    have lcB := lc_enc (μ := μ) (S := .vals ((sortU ltS (namS t)).map .str)) (enc := D.str) (Q := sortU ltS (namS t)) (step := lcStep (VM.run T (n + 4)) (.nm 3) bYes (eCmp (opCmp .Eq) (eSl (eV 3) (oNone) (oSome (eC (.int 2)))) (eC (.str "zz"))) (wipeE [some (.dat t.d), some (.dat (.bl (small t))), none, none] [3])) (f := fun x => .bl (zzS x)) (c := fun _ => true) rfl
      (fun x hx => by
        obtain ⟨y, c1, c2, _⟩ := zz_ok (nam_hd ((m2 x).1 hx))
        simp [wipeE, asg, oNone, oSome, c1, c2]) k2
    rw [flt_all] at lcA lcB
    have b1 : bAll [.lst ((sortU ltI (numI t)).map fun i => D.bl (decide (-999 ≤ i) && decide (i ≤ 999)))] = some (.dat (.bl (small t))) := by
      show (bls _).map _ = _
      rw [bls_map]
      simp only [Option.map_some, List.all_map]
      congr 3
      exact all_same m1
    have b2 : bAny [.lst ((sortU ltS (namS t)).map fun x => D.bl (zzS x))] = some (.dat (.bl (!noZ t))) := by
      show (bls _).map _ = _
      rw [bls_map]
      simp only [Option.map_some, List.any_map]
      congr 3
      have a1 := any_not zzS (sortU ltS (namS t))
      have a2 : (sortU ltS (namS t)).all (fun x => !zzS x) = noZ t := all_same m2
      show (sortU ltS (namS t)).any zzS = !noZ t
      rw [← a2, ← a1, Bool.not_not]
    have z1 : (sortU ltI (numI t)).length ≤ LIM := lim1 (by omega)
    have z2 : (sortU ltS (namS t)).length ≤ LIM := lim1 (by omega)
    rw [w] at e ⊢
    have we1 : wipeE [some (.dat t.d), none, none, none] [2] = [some (.dat t.d), none, none, none] := by simp [wipeE]
    have we2 : wipeE [some (.dat t.d), some (.dat (.bl (small t))), none, none] [3] = [some (.dat t.d), some (.dat (.bl (small t))), none, none] := by simp [wipeE]
    rw [we1] at lcA
    rw [we2] at lcB
    cases hsm : small t with
    | false =>
      rw [hsm] at b1
      simp [startE, e, e1, wipeE, lcA, b1, z1, callEnd, EV.out]
    | true =>
      rw [hsm] at b1 lcB
      cases hz : noZ t <;> rw [hz] at b2 <;> simp [startE, e, e1, e2, wipeE, lcA, lcB, b1, b2, z1, z2, callEnd, EV.out]
  · have w' : isTm t = false := by simpa using w
    rw [w'] at e ⊢
    simp [startE, e, callEnd, EV.out]
end
end K11
set_option maxHeartbeats 0
/-! k11: what is due. -/
namespace K11
open VM Law
open L2 (atI ixN)
def dueL (t : Vl) : List D := [.bl (isTm t), .bl (isTm t && (stT t).isEmpty), .bl (isTm t && (small t && noZ t))]
section
variable {n : Nat} {μ : Sto}
theorem cel_at {E : Sto} {l : List D} : (Src.cell μ.length).at (μ ++ cL l :: E) = some l := by
  simp [Src.at, cL]
theorem cel_at1 {E : Sto} {c : Cell} {l : List D} : (Src.cell (μ.length + 1)).at (μ ++ c :: cL l :: E) = some l := by
  simp [Src.at, cL]
theorem cel_at2 {E : Sto} {c c' : Cell} {l : List D} : (Src.cell (μ.length + 2)).at (μ ++ c :: c' :: cL l :: E) = some l := by
  simp [Src.at, cL]
theorem lc_sorts {F : Fns} (t : Vl) (hs : sz t ≤ 450) (a0 a1 a2 a3 a4 a5 a8 a9 : Option SV) (E : Sto) :
    lcLoop (.cell μ.length) (lcStep F (.tup [.nm 6, .nm 7]) (bCmp (opCmp .In) (eV 6) (eLst (evs [eC (.str "term"), eC (.str "head"), eC (.str "rest")]))) (eC (.int 1)) [a0, a1, a2, a3, a4, a5, none, none, a8, a9]) ((th t).length + 1) 0 (μ ++ cL (thD t) :: E) =
      .ok ((stT t).map fun _ => .int 1) (μ ++ cL (thD t) :: E) := by
  have hl := th_len t
  exact lc_enc (enc := Ti.d) (Q := th t) (f := fun _ => .int 1) (c := fun p => inS p.k) cel_at (fun p _ => by
    have inx := in_sorts p.k
    cases h : inS p.k <;> rw [h] at inx <;> simp [Ti.d, asg, asgs, opCmp, inx]) (by omega)
theorem lc_nums {F : Fns} (t : Vl) (hs : sz t ≤ 450) (a0 a1 a2 a3 a4 a5 a8 a9 : Option SV) (E : Sto) :
    lcLoop (.cell μ.length) (lcStep F (.tup [.nm 6, .nm 7]) (bCmp (opCmp .Eq) (eV 6) (eC (.str "number"))) (eV 7) [a0, a1, a2, a3, a4, a5, none, none, a8, a9]) ((th t).length + 1) 0 (μ ++ cL (thD t) :: E) =
      .ok ((numI t).map .int) (μ ++ cL (thD t) :: E) := by
  have hl := th_len t
  have e := lc_enc (μ := μ ++ cL (thD t) :: E) (S := .cell μ.length) (step := lcStep F (.tup [.nm 6, .nm 7]) (bCmp (opCmp .Eq) (eV 6) (eC (.str "number"))) (eV 7) [a0, a1, a2, a3, a4, a5, none, none, a8, a9]) (enc := Ti.d) (Q := th t) (f := fun p => .int p.i) (c := fun p => p.k == 0) cel_at (fun p _ => by
    have eq : opEq (.str (sn p.k)) (.str "number") = some (p.k == 0) := sn_eq p.k 0
    cases h : (p.k == 0)
    · rw [h] at eq
      simp [Ti.d, asg, asgs, opCmp, eq]
    · rw [h] at eq
      have h' : p.k = 0 := by simpa using h
      rw [h'] at eq
      simp [Ti.d, asg, asgs, opCmp, h', eq]) (by omega)
  rw [e]
  unfold numI
  rw [List.map_map]; rfl
theorem lc_nams {F : Fns} (t : Vl) (hs : sz t ≤ 450) (a0 a1 a2 a3 a4 a5 a8 a9 : Option SV) (E : Sto) :
    lcLoop (.cell μ.length) (lcStep F (.tup [.nm 6, .nm 7]) (bCmp (opCmp .Eq) (eV 6) (eC (.str "name"))) (eV 7) [a0, a1, a2, a3, a4, a5, none, none, a8, a9]) ((th t).length + 1) 0 (μ ++ cL (thD t) :: E) =
      .ok ((namS t).map .str) (μ ++ cL (thD t) :: E) := by
  have hl := th_len t
  have e := lc_enc (μ := μ ++ cL (thD t) :: E) (S := .cell μ.length) (step := lcStep F (.tup [.nm 6, .nm 7]) (bCmp (opCmp .Eq) (eV 6) (eC (.str "name"))) (eV 7) [a0, a1, a2, a3, a4, a5, none, none, a8, a9]) (enc := Ti.d) (Q := th t) (f := fun p => .str p.x) (c := fun p => p.k == 2) cel_at (fun p _ => by
    have eq : opEq (.str (sn p.k)) (.str "name") = some (p.k == 2) := sn_eq p.k 2
    cases h : (p.k == 2)
    · rw [h] at eq
      simp [Ti.d, asg, asgs, opCmp, eq]
    · rw [h] at eq
      have h' : p.k = 2 := by simpa using h
      rw [h'] at eq
      simp [Ti.d, asg, asgs, opCmp, h', eq]) (by omega)
  rw [e]
  unfold namS
  rw [List.map_map]; rfl
theorem l_due (t : Vl) (hs : sz t ≤ 450) : VM.run T (n + 4 + dep t) 23 [.dat t.d] μ = .ok (.new (.lst (dueL t))) μ := by
  rw [show n + 4 + dep t = (n + 3 + dep t) + 1 by omega]
  rw [run_at (nl := 10) (b := P__law_due) (by rfl)]
  unfold P__law_due
  have e := l_things t n (by omega) μ
  have hl := th_len t
  rw [show n + 3 + dep t = (n + 2 + dep t) + 1 by omega] at e ⊢
  unfold thO at e
  by_cases w : wf false t = true
  · rw [if_pos w] at e
    have et : isTm t = oneOk (stT t) := by unfold isTm; rw [w, Bool.true_and]
    have e2 := l_isTermL (n := n + 2 + dep t) (μ := μ ++ [cL (thD t)]) (sv := .cel μ.length) (L := th t) (.inr ⟨_, rfl, by simp [cL, thD]⟩) (by omega)
    have e2 : VM.run T (n + 2 + dep t + 1) 22 [.cel μ.length] (μ ++ [cL (thD t)]) = .ok (.dat (.bl (oneOk (stT t)))) (μ ++ [cL (thD t)]) := e2
    rw [← et] at e2
    generalize n + 2 + dep t + 1 = k at e e2 ⊢
    cases wt : isTm t with
    | false =>
      rw [wt] at e2
      simp only [cL] at e2
      simp [startE, e, e2, dueL, wt, callEnd, EV.out]
    | true =>
      rw [wt] at e2
      have b1 := lc_sorts (μ := μ) (F := VM.run T k) t hs (some (.dat t.d)) (some (.cel μ.length)) none none none none none none []
      have b2 := lc_nums (μ := μ) (F := VM.run T k) t hs (some (.dat t.d)) (some (.cel μ.length)) (some (.dat (.bl (stT t).isEmpty))) none none none none none []
      have b3 := lc_nams (μ := μ) (F := VM.run T k) t hs (some (.dat t.d)) (some (.cel μ.length)) (some (.dat (.bl (stT t).isEmpty))) (some (.cel (μ.length + 1))) none none none none [cL ((numI t).map .int)]
      have l1 := numI_len t
      have l2 := namS_len t
      have l3 := stT_len t
      have b4 := lc_enc (μ := μ ++ [cL (thD t), cL ((numI t).map .int), cL ((namS t).map .str)]) (S := .cell (μ.length + 1)) (enc := D.int) (Q := numI t) (step := lcStep (VM.run T k) (.nm 8) bYes (eChain (opCmp .LtE) (opCmp .LtE) (eNeg (eC (.int 999))) (eV 8) (eC (.int 999))) [some (.dat t.d), some (.cel μ.length), some (.dat (.bl (stT t).isEmpty)), some (.cel (μ.length + 1)), some (.cel (μ.length + 2)), none, none, none, none, none])
        (f := fun i => .bl (decide (-999 ≤ i) && decide (i ≤ 999))) (c := fun _ => true) cel_at1 (fun i _ => by
          by_cases h1 : (-999 : Int) ≤ i
          · simp [asg, opCmp, opI, eNeg, eChain, h1]
          · simp [asg, opCmp, opI, eNeg, eChain, h1]) (by omega)
      have b5 := lc_enc (μ := μ ++ [cL (thD t), cL ((numI t).map .int), cL ((namS t).map .str)]) (S := .cell (μ.length + 2)) (enc := D.str) (Q := namS t) (step := lcStep (VM.run T k) (.nm 9) bYes (eCmp (opCmp .NotEq) (eSl (eV 9) (oNone) (oSome (eC (.int 2)))) (eC (.str "zz"))) [some (.dat t.d), some (.cel μ.length), some (.dat (.bl (stT t).isEmpty)), some (.cel (μ.length + 1)), some (.cel (μ.length + 2)), some (.dat (.bl (small t))), none, none, none, none])
        (f := fun x => .bl (!zzS x)) (c := fun _ => true) cel_at2 (fun x hx => by
          obtain ⟨y, c1, _, c3⟩ := zz_ok (nam_hd hx)
          simp [asg, oNone, oSome, c1, c3]) (by omega)
      rw [flt_all] at b4 b5
      have a1 : bAll [.lst ((numI t).map fun i => D.bl (decide (-999 ≤ i) && decide (i ≤ 999)))] = some (.dat (.bl (small t))) := by
        show (bls _).map _ = _
        rw [bls_map]
        simp only [Option.map_some, List.all_map]
        rfl
      have a2 : bAll [.lst ((namS t).map fun x => D.bl (!zzS x))] = some (.dat (.bl (noZ t))) := by
        show (bls _).map _ = _
        rw [bls_map]
        simp only [Option.map_some, List.all_map]
        rfl
      have en : ((stT t).map fun _ => D.int 1).isEmpty = (stT t).isEmpty := by cases stT t <;> rfl
      have q := eq_nil ((stT t).map fun _ => D.int 1)
      rw [en] at q
      have z0 : (thD t).length = (th t).length := by unfold thD; rw [List.length_map]
      have z1 : (numI t).length ≤ LIM := lim1 (by omega)
      have z2 : (namS t).length ≤ LIM := lim1 (by omega)
      have z3 : (stT t).length ≤ LIM := lim1 (by omega)
      have hd : dueL t = [.bl true, .bl (stT t).isEmpty, .bl (small t && noZ t)] := by simp [dueL, wt]
      rw [hd]
      simp only [cL] at e2 b1 b2 b3 b4 b5
      have z4 : ((stT t).map fun _ => D.int 1).length ≤ LIM := by rw [List.length_map]; exact z3
      have x1 : ((numI t).map D.int).length ≤ LIM := by rw [List.length_map]; exact z1
      have x2 : ((namS t).map D.str).length ≤ LIM := by rw [List.length_map]; exact z2
      have x3 : ((numI t).map fun i => D.bl (decide (-999 ≤ i) && decide (i ≤ 999))).length ≤ LIM := by rw [List.length_map]; exact z1
      have x4 : ((namS t).map fun x => D.bl (!zzS x)).length ≤ LIM := by rw [List.length_map]; exact z2
      have n1 : (numI t).length = ((numI t).map D.int).length := by rw [List.length_map]
      have n2 : (namS t).length = ((namS t).map D.str).length := by rw [List.length_map]
      rw [← z0] at b1 b2 b3
      rw [n1] at b4
      rw [n2] at b5
      generalize (stT t).isEmpty = KD at q b2 b3 b4 b5 ⊢
      generalize (stT t).map (fun _ => D.int 1) = LK at q b1 z4
      generalize (numI t).map (fun i => D.bl (decide (-999 ≤ i) && decide (i ≤ 999))) = LB at a1 b4 x3
      generalize (namS t).map (fun x => D.bl (!zzS x)) = LZ at a2 b5 x4
      generalize (numI t).map D.int = LI at b2 b3 b4 b5 x1
      generalize (namS t).map D.str = LS at b3 b4 b5 x2
      generalize thD t = LT at e e2 b1 b2 b3 b4 b5
      generalize small t = sm at a1 b5 ⊢
      generalize noZ t = nz at a2 ⊢
      clear l1 l2 l3 z0 z1 z2 z3 n1 n2 et hl en hd
      cases sm with
      | false => simp [startE, e, e2, srcOf, Src.len, Src.at, wipeE, b1, q, z4, b2, x1, b3, x2, b4, x3, a1, EV.see, callEnd, EV.out]
      | true => simp [startE, e, e2, srcOf, Src.len, Src.at, wipeE, b1, q, z4, b2, x1, b3, x2, b4, x3, a1, b5, x4, a2, EV.see, callEnd, EV.out]
  · rw [if_neg w] at e
    have wt : isTm t = false := by
      cases h : isTm t with
      | false => rfl
      | true => exact absurd (wf_of h) w
    have e2 := l_isTermN (n := n + 2 + dep t) (μ := μ)
    simp [startE, e, e2, dueL, wt, callEnd, EV.out]
end
end K11
set_option maxHeartbeats 0
/-! the draws -/
namespace K11
open VM Law
open L2 (atI ixN)
/-! the draws -/
def potC (a b : Int) : Cell := ⟨true, .lst [.int a, .int b]⟩
def PotAt (μ : Sto) (k : Nat) : Prop := ∃ a b : Int, μ[k]? = some (potC a b)
def Nxt (μ μ' : Sto) (k : Nat) : Prop := ∃ a b : Int, μ' = μ.set k (potC a b)
section
variable {n k : Nat} {μ μ' μ2 E : Sto}
theorem PotAt.lt (h : PotAt μ k) : k < μ.length := let ⟨_, _, h⟩ := h; (List.getElem?_eq_some_iff.mp h).1
theorem Nxt.refl (h : PotAt μ k) : Nxt μ μ k := by
  obtain ⟨a, b, h⟩ := h
  have hk := (List.getElem?_eq_some_iff.mp h).1
  have e := (List.getElem?_eq_some_iff.mp h).2
  exact ⟨a, b, by rw [← e, List.set_getElem_self]⟩
theorem Nxt.len (h : Nxt μ μ' k) : μ'.length = μ.length := by obtain ⟨a, b, rfl⟩ := h; exact List.length_set
theorem Nxt.pot (h : Nxt μ μ' k) (hk : k < μ.length) : PotAt μ' k := by obtain ⟨a, b, rfl⟩ := h; exact ⟨a, b, List.getElem?_set_self hk⟩
theorem Nxt.trans (h : Nxt μ μ' k) (g : Nxt μ' μ2 k) : Nxt μ μ2 k := by
  obtain ⟨a, b, rfl⟩ := h
  obtain ⟨c, d, rfl⟩ := g
  exact ⟨c, d, List.set_set ..⟩
theorem PotAt.app (h : PotAt μ k) : PotAt (μ ++ E) k := by
  have := h.lt
  obtain ⟨a, b, h⟩ := h
  exact ⟨a, b, by rw [List.getElem?_append_left this]; exact h⟩
theorem Nxt.app (hk : k < μ.length) (h : Nxt (μ ++ E) μ' k) : ∃ μ1, μ' = μ1 ++ E ∧ Nxt μ μ1 k := by
  obtain ⟨a, b, rfl⟩ := h
  exact ⟨μ.set k (potC a b), by rw [List.set_append_left _ _ hk], a, b, rfl⟩
theorem ixl0 {a b : Int} : opIx (.lst [.int a, .int b]) (.int 0) = some (.dat (.int a)) := by
  unfold opIx L2.atI L2.ixN
  simp
theorem ixl1 {a b : Int} : opIx (.lst [.int a, .int b]) (.int 1) = some (.dat (.int b)) := by
  unfold opIx L2.atI L2.ixN
  simp
theorem s_draw (hp : PotAt μ k) (m : Int) (h0 : 0 < m) (h1 : m < 1073741824) : ∃ (d : Nat) (μ' : Sto), (d : Int) < m ∧ Nxt μ μ' k ∧ VM.run T (n + 1) 15 [.cel k, .dat (.int m)] μ = .ok (.dat (.int d)) μ' := by
  have hk := hp.lt
  obtain ⟨a, b, h⟩ := hp
  unfold potC at h
  have tk : ∀ c : Cell, (μ.set k c).take μ.length = μ.set k c := fun c => List.take_of_length_le (by rw [List.length_set]; exact Nat.le_refl _)
  have fin : ∀ (d : Int) (μ' : Sto), 0 ≤ d → d < m → Nxt μ μ' k → VM.run T (n + 1) 15 [.cel k, .dat (.int m)] μ = .ok (.dat (.int d)) μ' → ∃ (d : Nat) (μ' : Sto), (d : Int) < m ∧ Nxt μ μ' k ∧ VM.run T (n + 1) 15 [.cel k, .dat (.int m)] μ = .ok (.dat (.int d)) μ' := fun d μ' e0 e1 nx e => by
    obtain ⟨d', rfl⟩ : ∃ d' : Nat, d = d' := ⟨d.toNat, by omega⟩
    exact ⟨d', μ', e1, nx, e⟩
  rw [run_at (nl := 3) (b := P__law_draw) (by rfl)] at fin ⊢
  unfold P__law_draw at fin ⊢
  by_cases ha : 0 < a
  · refine fin (a % m) (μ.set k (potC (a / m) b)) (Int.emod_nonneg _ (by omega)) (Int.emod_lt_of_pos _ h0) ⟨_, _, rfl⟩ ?_
    simp [startE, EV.see, h, ixl0, opCmp, VM.opI, ha, bDivmod, h0, h1, gSb, VM.putAt, ixN, VM.callEnd, EV.out, tk, potC]
  · let p : Int := (b * 44485 + 6197) % 2147483587
    have p0 : 0 ≤ p := Int.emod_nonneg _ (by decide)
    have p1 : p < 2147483587 := Int.emod_lt_of_pos _ (by decide)
    refine fin (p * p % 2147483549 / 13 % m) (μ.set k (potC a p)) (Int.emod_nonneg _ (by omega)) (Int.emod_lt_of_pos _ h0) ⟨_, _, rfl⟩ ?_
    have m1 : opBin .Mult (.int b) (.int 44485) = some (.dat (.int (b * 44485))) := by simp [opBin, smallI]
    have a1 : opBin .Add (.int (b * 44485)) (.int 6197) = some (.dat (.int (b * 44485 + 6197))) := rfl
    have d1 : opBin .Mod (.int (b * 44485 + 6197)) (.int 2147483587) = some (.dat (.int p)) := rfl
    have sp : smallI p = true := by simp [smallI]; omega
    have m2 : opBin .Mult (.int p) (.int p) = some (.dat (.int (p * p))) := by simp [opBin, sp]
    have d2 : opBin .Mod (.int (p * p)) (.int 2147483549) = some (.dat (.int (p * p % 2147483549))) := rfl
    have d3 : opBin .FloorDiv (.int (p * p % 2147483549)) (.int 13) = some (.dat (.int (p * p % 2147483549 / 13))) := rfl
    have d4 : opBin .Mod (.int (p * p % 2147483549 / 13)) (.int m) = some (.dat (.int (p * p % 2147483549 / 13 % m))) := if_pos h0
    have bi : ∀ i : Int, bInt [.int i] = some (.dat (.int i)) := fun i => rfl
    have g1 : (μ.set k ⟨true, .lst [.int a, .int p]⟩)[k]? = some ⟨true, .lst [.int a, .int p]⟩ := List.getElem?_set_self hk
    simp [startE, EV.see, h, ixl0, ixl1, opCmp, VM.opI, ha, gSb, VM.putAt, ixN, VM.callEnd, EV.out, tk, potC, bi, m1, a1, d1, m2, d2, d3, d4, g1]
theorem s_pick (hp : PotAt μ k) (xs : List D) (h0 : 0 < xs.length) (h1 : xs.length < 1000) : ∃ (x : D) (μ' : Sto), x ∈ xs ∧ Nxt μ μ' k ∧ VM.run T (n + 2) 16 [.cel k, .dat (.lst xs)] μ = .ok (.dat x) μ' := by
  obtain ⟨d, μ', hd, nx, e⟩ := s_draw (n := n) hp (xs.length : Nat) (by omega) (by omega)
  have hd' : d < xs.length := by omega
  refine ⟨xs[d], μ', List.getElem_mem hd', nx, ?_⟩
  rw [run_at (nl := 2) (b := P__law_pick) (by rfl)]
  unfold P__law_pick
  have bl : bLen [.lst xs] = some (.dat (.int xs.length)) := rfl
  have ix : opIx (.lst xs) (.int (d : Nat)) = some (.dat xs[d]) := by
    show (atI xs (d : Nat)).map EV.dat = _
    unfold L2.atI L2.ixN
    rw [if_pos (by omega), if_pos (by omega)]
    simp [List.getElem?_eq_getElem hd']
  have tk : μ'.take μ.length = μ' := List.take_of_length_le (by rw [nx.len]; exact Nat.le_refl _)
  simp [startE, bl, e, ix, VM.callEnd, EV.out, tk]
end

section
variable {n k : Nat} {μ : Sto}
theorem s_pot (ns : List Int) (h : ns.length ≤ 63) : ∃ a b : Int, VM.run T (n + 1) 14 [.dat (.scr ns), .dat (.int 0)] μ = .ok (.new (.lst [.int a, .int b])) μ := by
  rw [run_at (nl := 3) (b := P__law_pot) (by rfl)]
  have bl : bLen [.scr ns] = some (.dat (.int ns.length)) := by
    first | rfl | exact if_pos h
  have fin : ∀ x : Int, ∃ a b : Int, VM.callEnd μ.length (sRet (eLst (evs [eCb bMax (evs [eC (.int 0), eBin .Sub (eV 2) (eBin .Pow (eC (.int 10)) (eC (.int 18)))]), eBin .Add (eBin .Mod (eCb bInt (evs [eBin .Add (eBin .Add (eBin .Mult (eBin .Mod (eCb bInt (evs [eV 2])) (eC (.int 2147483549))) (eC (.int 39373))) (eBin .Mult (eC (.int 5087)) (eV 1))) (eC (.int 223))])) (eC (.int 2147483563))) (eC (.int 1))])) (VM.run T n) [some (.dat (.scr ns)), some (.dat (.int 0)), some (.dat (.int x))] μ) = .ok (.new (.lst [.int a, .int b])) μ := fun x => by
    obtain ⟨y, hy⟩ : ∃ y, y = x % 2147483549 := ⟨_, rfl⟩
    have y0 : 0 ≤ y := by rw [hy]; exact Int.emod_nonneg _ (by decide)
    have y1 : y < 2147483549 := by rw [hy]; exact Int.emod_lt_of_pos _ (by decide)
    have bi : ∀ i : Int, bInt [.int i] = some (.dat (.int i)) := fun i => rfl
    have pw : opBin .Pow (.int 10) (.int 18) = some (.dat (.int 1000000000000000000)) := by simp [opBin]
    have sb : opBin .Sub (.int x) (.int 1000000000000000000) = some (.dat (.int (x - 1000000000000000000))) := rfl
    obtain ⟨a, mx⟩ : ∃ a : Int, bMax [.int 0, .int (x - 1000000000000000000)] = some (.dat (.int a)) := ⟨_, rfl⟩
    have d1 : opBin .Mod (.int x) (.int 2147483549) = some (.dat (.int y)) := by rw [hy]; rfl
    have m1 : opBin .Mult (.int y) (.int 39373) = some (.dat (.int (y * 39373))) := by
      have sp : smallI y = true := by simp [smallI]; omega
      have sq : smallI 39373 = true := by decide
      simp [opBin, sp, sq]
    have m2 : opBin .Mult (.int 5087) (.int 0) = some (.dat (.int 0)) := by rfl
    obtain ⟨z, hz⟩ : ∃ z, z = (y * 39373 + 0 + 223) % 2147483563 := ⟨_, rfl⟩
    have d2 : opBin .Mod (.int (y * 39373 + 0 + 223)) (.int 2147483563) = some (.dat (.int z)) := by rw [hz]; rfl
    refine ⟨a, z + 1, ?_⟩
    generalize VM.run T n = F
    simp only [Int.add_zero] at d2
    simp [bi, pw, sb, mx, d1, m1, m2, addI, d2, VM.callEnd, EV.out]
  unfold P__law_pot
  have e0 : ∃ x : Int, sSet 2 (eIf (bCmp (opCmp .Lt) (eV 1) (eCb bLen (evs [eV 0]))) (eCb bAbs (evs [eIx (eV 0) (eV 1)])) (eBin .Add (eBin .Mult (eC (.int 281)) (eV 1)) (eC (.int 193)))) (VM.run T n) (startE 3 [.dat (.scr ns), .dat (.int 0)]) μ = .ok (.nx [some (.dat (.scr ns)), some (.dat (.int 0)), some (.dat (.int x))]) μ := by
    have m2 : opBin .Mult (.int 281) (.int 0) = some (.dat (.int 0)) := by rfl
    cases ns with
    | nil =>
      have lt : opCmp .Lt (.int 0) (.int 0) = some false := by rfl
      simp at bl
      exact ⟨193, by simp [startE, bl, lt, m2, addI]⟩
    | cons i ns =>
      have lt : opCmp .Lt (.int 0) (.int ((i :: ns).length : Nat)) = some true := by simp [opCmp, VM.opI]
      have ix : opIx (.scr (i :: ns)) (.int 0) = some (.dat (.int i)) := by
        unfold opIx L2.atI L2.ixN
        simp
      have ab : bAbs [.int i] = some (.dat (.int (if i < 0 then -i else i))) := rfl
      generalize ((i :: ns).length : Nat) = len at bl lt
      exact ⟨_, by simp [startE, bl, lt, ix, ab]; rfl⟩
  obtain ⟨x, e0⟩ := e0
  obtain ⟨a, b, e⟩ := fin x
  exact ⟨a, b, by rw [xs_seq, e0]; exact e⟩
end
end K11
set_option maxHeartbeats 0
/-! k11: drawn leaves. -/
namespace K11
open VM Law
open L2 (atI ixN)
@[simp] theorem lm6 : (6 ≤ LIM) = True := eq_true (by decide)
@[simp] theorem lm7 : (7 ≤ LIM) = True := eq_true (by decide)
@[simp] theorem lm8 : (8 ≤ LIM) = True := eq_true (by decide)
@[simp] theorem lm10 : (10 ≤ LIM) = True := eq_true (by decide)
@[simp] theorem lm11 : (11 ≤ LIM) = True := eq_true (by decide)
@[simp] theorem lm12 : (12 ≤ LIM) = True := eq_true (by decide)
@[simp] theorem lm13 : (13 ≤ LIM) = True := eq_true (by decide)
def v1 : List Vl := [.lf .l0, .lf .l1, .lf .l2, .lf .l3, .lf .l4, .lf .l5, .lf .l0]
def v2 : List Vl := [.lf .l6, .lf .l7, .lf .l8, .lf .l9, .lf .l10, .lf .l11, .lf .l12, .lf .l13, .lf .l14]
def v3 : List Hd := [.h0, .h1, .h2, .h3, .h4, .h5, .h11, .h6]
def v4 : List Vl := [.lf .l25, .lf .l26, .lf .l27, .lf .l15, .lf .l16, .lf .l17, .lf .l18, .lf .l19, .lf .l20, .lf .l21, .lf .l22]
def v5 : List Vl := [.lf .l28, .lf .l29, .lf .l30, .lf .l31, .app .h7 .lst [], .lf .l32, .app .h13 .tup [], .app .h14 .tup [], .app .h15 .tup [], .lf .l33, .app .h21 .tup [], .app .h7 .non [], .app .h16 .tup []]
def Tiny (t : Vl) : Prop := dep t ≤ 1 ∧ sz t ≤ 1
theorem tiny1 : ∀ t ∈ v1, Tiny t := by intro t h; simp only [v1, List.mem_cons, List.not_mem_nil, or_false] at h; rcases h with rfl | rfl | rfl | rfl | rfl | rfl | rfl <;> exact ⟨by simp [dep], by simp [sz]⟩
theorem tiny2 : ∀ t ∈ v2, Tiny t := by intro t h; simp only [v2, List.mem_cons, List.not_mem_nil, or_false] at h; rcases h with rfl | rfl | rfl | rfl | rfl | rfl | rfl | rfl | rfl <;> exact ⟨by simp [dep], by simp [sz]⟩
theorem tiny4 : ∀ t ∈ v4, Tiny t := by intro t h; simp only [v4, List.mem_cons, List.not_mem_nil, or_false] at h; rcases h with rfl | rfl | rfl | rfl | rfl | rfl | rfl | rfl | rfl | rfl | rfl <;> exact ⟨by simp [dep], by simp [sz]⟩
theorem tiny5 : ∀ t ∈ v5, Tiny t := by intro t h; simp only [v5, List.mem_cons, List.not_mem_nil, or_false] at h; rcases h with rfl | rfl | rfl | rfl | rfl | rfl | rfl | rfl | rfl | rfl | rfl | rfl | rfl <;> exact ⟨by simp [dep, deps], by simp [sz, szs]⟩
section
variable {n k : Nat} {μ : Sto}
theorem s_pickG (hp : PotAt μ k) {sv : SV} (xs : List D) (hs : ∀ μ' : Sto, Nxt μ μ' k → sv.ev.see μ' = some (.lst xs)) (h0 : 0 < xs.length) (h1 : xs.length < 1000) : ∃ (x : D) (μ' : Sto), x ∈ xs ∧ Nxt μ μ' k ∧ VM.run T (n + 2) 16 [.cel k, sv] μ = .ok (.dat x) μ' := by
  obtain ⟨d, μ', hd, nx, e⟩ := s_draw (n := n) hp (xs.length : Nat) (by omega) (by omega)
  have hd' : d < xs.length := by omega
  refine ⟨xs[d], μ', List.getElem_mem hd', nx, ?_⟩
  rw [run_at (nl := 2) (b := P__law_pick) (by rfl)]
  unfold P__law_pick
  have bl : bLen [.lst xs] = some (.dat (.int xs.length)) := rfl
  have ix : opIx (.lst xs) (.int (d : Nat)) = some (.dat xs[d]) := by
    show (atI xs (d : Nat)).map EV.dat = _
    unfold L2.atI L2.ixN
    rw [if_pos (by omega), if_pos (by omega)]
    simp [List.getElem?_eq_getElem hd']
  have tk : μ'.take μ.length = μ' := List.take_of_length_le (by rw [nx.len]; exact Nat.le_refl _)
  have s0 := hs μ (Nxt.refl hp)
  have s1 := hs μ' nx
  simp [startE, bl, s0, s1, e, ix, VM.callEnd, EV.out, tk]
theorem pow12 : opBin .Pow (.int 10) (.int 12) = some (.dat (.int 1000000000000)) := by simp [opBin]
theorem leaf_of {vs : List Vl} {x : D} (h : x ∈ vs.map Vl.d) (ht : ∀ t ∈ vs, Tiny t) : ∃ t : Vl, x = t.d ∧ Tiny t := by
  obtain ⟨t, hm, rfl⟩ := List.mem_map.mp h
  exact ⟨t, rfl, ht t hm⟩
theorem s_leaf (hp : PotAt μ k) : ∃ (t : Vl) (μ' : Sto), VM.run T (n + 3) 24 [.cel k] μ = .ok (.dat t.d) μ' ∧ Nxt μ μ' k ∧ Tiny t := by
  have hk := hp.lt
  obtain ⟨w, μ1, hw, n1, e1⟩ := s_draw (n := n + 1) hp 8 (by decide) (by decide)
  have hp1 := n1.pot hk
  rw [run_at (nl := 2) (b := P__law_leaf) (by rfl)]
  unfold P__law_leaf
  have tk : ∀ X : Sto, X.length = μ.length → X.take μ.length = X := fun X h => List.take_of_length_le (by rw [h]; exact Nat.le_refl _)
  have q1 : opCmp .Lt (.int (w : Nat)) (.int 3) = some (decide ((w : Int) < 3)) := rfl
  have q2 : opCmp .Lt (.int (w : Nat)) (.int 5) = some (decide ((w : Int) < 5)) := rfl
  have q3 : opCmp .Eq (.int (w : Nat)) (.int 5) = some ((w : Int) == 5) := by simp only [opCmp, opEq_int]
  have q4 : opCmp .Eq (.int (w : Nat)) (.int 6) = some ((w : Int) == 6) := by simp only [opCmp, opEq_int]
  by_cases c1 : (w : Int) < 3
  · obtain ⟨x, μ2, hx, n2, e2⟩ := s_pick (n := n) hp1 (v1.map Vl.d) (by decide) (by decide)
    obtain ⟨t, rfl, ht⟩ := leaf_of hx tiny1
    refine ⟨t, μ2, ?_, n1.trans n2, ht⟩
    have l2 := tk μ2 (by rw [n2.len, n1.len])
    have ev : v1.map Vl.d = [.str "X", .str "Y", .str "S", .str "H", .str "Z9", .str "A10", .str "X"] := rfl
    rw [ev] at e2
    rw [decide_eq_true c1] at q1
    simp [startE, e1, q1, e2, VM.callEnd, EV.out, l2]
  · rw [decide_eq_false c1] at q1
    by_cases c2 : (w : Int) < 5
    · obtain ⟨x, μ2, hx, n2, e2⟩ := s_pick (n := n) hp1 (v2.map Vl.d) (by decide) (by decide)
      obtain ⟨t, rfl, ht⟩ := leaf_of hx tiny2
      refine ⟨t, μ2, ?_, n1.trans n2, ht⟩
      have l2 := tk μ2 (by rw [n2.len, n1.len])
      have ev : v2.map Vl.d = [.int 0, .int 1, .int (-1), .int 999, .int (-999), .int 1000, .int (-1000), .int 1000000000000, .int 7] := rfl
      rw [ev] at e2
      rw [decide_eq_true c2] at q2
      simp [startE, e1, q1, q2, eNeg, pow12, e2, VM.callEnd, EV.out, l2]
    · rw [decide_eq_false c2] at q2
      by_cases c3 : (w : Int) = 5
      · obtain ⟨x, μ2, hx, n2, e2⟩ := s_pick (n := n) hp1 (v3.map hdD) (by decide) (by decide)
        obtain ⟨h, hm, rfl⟩ := List.mem_map.mp hx
        refine ⟨.app h .tup [], μ2, ?_, n1.trans n2, by simp [dep, deps], by simp [sz, szs]⟩
        have l2 := tk μ2 (by rw [n2.len, n1.len])
        have ev : v3.map hdD = [.str "a", .str "int", .str "zz", .str "zz0", .str "z", .str "abcdefgh", .str "H", .str "a1"] := rfl
        rw [ev] at e2
        rw [beq_iff_eq.mpr c3] at q3
        have ed : (Vl.app h .tup []).d = .tup [hdD h, .tup []] := rfl
        simp [startE, e1, q1, q2, q3, e2, VM.callEnd, EV.out, l2, ed]
      · rw [beq_eq_false_iff_ne.mpr c3] at q3
        by_cases c4 : (w : Int) = 6
        · obtain ⟨x, μ2, hx, n2, e2⟩ := s_pick (n := n) hp1 (v4.map Vl.d) (by decide) (by decide)
          obtain ⟨t, rfl, ht⟩ := leaf_of hx tiny4
          refine ⟨t, μ2, ?_, n1.trans n2, ht⟩
          have l2 := tk μ2 (by rw [n2.len, n1.len])
          have ev : v4.map Vl.d = [.non, .bl true, .bl false, .str "x", .str "", .str "X100", .str "Xy", .str "*S", .str "*", .str "X*", .str "1"] := rfl
          rw [ev] at e2
          rw [beq_iff_eq.mpr c4] at q4
          have l11 : (11 ≤ LIM) = True := eq_true (by decide)
          simp [startE, e1, q1, q2, q3, q4, e2, l11, VM.callEnd, EV.out, l2]
        · rw [beq_eq_false_iff_ne.mpr c4] at q4
          obtain ⟨x, μ2, hx, n2, e2⟩ := s_pick (n := n) hp1 (v5.map Vl.d) (by decide) (by decide)
          obtain ⟨t, rfl, ht⟩ := leaf_of hx tiny5
          refine ⟨t, μ2, ?_, n1.trans n2, ht⟩
          have l2 := tk μ2 (by rw [n2.len, n1.len])
          have ev : v5.map Vl.d = [.lst [], .tup [], .dic [] [], .tup [.str "f"], .tup [.str "f", .lst []], .lst [.str "f", .tup []], .tup [.str "F1g", .tup []], .tup [.str "", .tup []], .tup [.str "abcdefghi", .tup []], .tup [.str "f", .tup [], .tup []], .tup [.int 1, .tup []], .tup [.str "f", .non], .tup [.str "zZ", .tup []]] := rfl
          rw [ev] at e2
          have l13 : (13 ≤ LIM) = True := eq_true (by decide)
          simp [startE, e1, q1, q2, q3, q4, eDict0, e2, l13, VM.callEnd, EV.out, l2]
end
end K11
set_option maxHeartbeats 0
/-! k11: drawn values, statement by statement. -/
namespace K11
open VM Law
open L2 (atI ixN)
def Ext (μ X : Sto) (k : Nat) : Prop := ∃ μc E : Sto, X = μc ++ E ∧ Nxt μ μc k
section
variable {n k j : Nat} {μ X Y E : Sto} {c : Cell}
theorem Ext.refl (h : PotAt μ k) : Ext μ μ k := ⟨μ, [], by simp, .refl h⟩
theorem Ext.nxt (hk : k < μ.length) (h : Ext μ X k) (g : Nxt X Y k) : Ext μ Y k := by
  obtain ⟨μc, E, rfl, n1⟩ := h
  obtain ⟨μ2, rfl, n2⟩ := g.app (by rw [n1.len]; exact hk)
  exact ⟨μ2, E, rfl, n1.trans n2⟩
theorem Ext.push (h : Ext μ X k) : Ext μ (X ++ E) k := by
  obtain ⟨μc, E', rfl, n1⟩ := h
  exact ⟨μc, E' ++ E, by simp, n1⟩
theorem Ext.set (h : Ext μ X k) (hj : μ.length ≤ j) : Ext μ (X.set j c) k := by
  obtain ⟨μc, E', rfl, n1⟩ := h
  refine ⟨μc, E'.set (j - μc.length) c, ?_, n1⟩
  rw [List.set_append_right]
  rw [n1.len]; exact hj
theorem Ext.fin (h : Ext μ X k) : Nxt μ (X.take μ.length) k := by
  obtain ⟨μc, E, rfl, n1⟩ := h
  rw [← n1.len]
  simpa using n1
theorem Ext.le (h : Ext μ X k) : μ.length ≤ X.length := by
  obtain ⟨μc, E, rfl, n1⟩ := h
  rw [List.length_append, n1.len]; omega
theorem Nxt.get (h : Nxt X Y k) (hj : j ≠ k) : Y[j]? = X[j]? := by
  obtain ⟨a, b, rfl⟩ := h
  exact List.getElem?_set_ne (fun e => hj e.symm)
theorem PotAt.set (h : PotAt X k) (hj : j ≠ k) : PotAt (X.set j c) k := by
  obtain ⟨a, b, h⟩ := h
  exact ⟨a, b, by rw [List.getElem?_set_ne hj]; exact h⟩
/-- how a statement goes on -/
structure Go (X Y : Sto) (k j : Nat) : Prop where
  pot : PotAt Y k
  ext : ∀ μ : Sto, k < μ.length → μ.length ≤ j → Ext μ X k → Ext μ Y k
  le : X.length ≤ Y.length
theorem Nxt.go (h : Nxt X Y k) (hk : k < X.length) : Go X Y k j := ⟨h.pot hk, fun μ hm _ e => e.nxt hm h, by rw [h.len]; exact Nat.le_refl _⟩
def headA : List Hd := [.h7, .h8, .h9, .h11, .h11, .h12, .h10]
def headB : List Hd := [.h17, .h18, .h19, .h20]
def envV (k : Nat) (dd : Int) (o : Bool) (a4 a5 a6 : Option SV) : Env := [some (.cel k), some (.dat (.int dd)), some (.dat (.bl o)), none, a4, a5, a6, none]
theorem hA : headA.map hdD = [.str "f", .str "g", .str "zz1", .str "H", .str "H", .str "K2", .str "p"] := rfl
theorem hB : headB.map hdD = [.str "Hh", .str "aB", .non, .int 3] := rfl
variable {F : Fns} {dd : Int} {o : Bool}
theorem val4 : (sSet 4 (eLst (evs [eC (.str "f"), eC (.str "g"), eC (.str "zz1"), eC (.str "H"), eC (.str "H"), eC (.str "K2"), eC (.str "p")]))) F (envV k dd o none none none) X = .ok (.nx (envV k dd o (some (.cel X.length)) none none)) (X ++ [cL (headA.map hdD)]) := by
  rw [hA]
  simp [envV, cL]
theorem val5 (hp : PotAt X k) (hj : X[j]? = some (cL (headA.map hdD))) (ne : j ≠ k) : ∃ (h : Hd) (Y : Sto), (sSet 5 (eCall 16 (evs [eV 0, eIf (bTru (eV 2)) (eBin .Add (eV 4) (eLst (evs [eC (.str "Hh"), eC (.str "aB"), eC .non, eC (.int 3)]))) (eV 4)]))) (VM.run T (n + 2)) (envV k dd o (some (.cel j)) none none) X = .ok (.nx (envV k dd o (some (.cel j)) (some (.dat (hdD h))) none)) Y ∧ Nxt X Y k := by
  cases o with
  | false =>
    obtain ⟨x, Y, hx, nx, e⟩ := s_pickG (n := n) (sv := .cel j) hp (headA.map hdD) (fun Z hz => by simp only [ev_cel, EV.see]; rw [hz.get ne, hj]; rfl) (by decide) (by decide)
    obtain ⟨h, hm, rfl⟩ := List.mem_map.mp hx
    exact ⟨h, Y, by simp [envV, e], nx⟩
  | true =>
    obtain ⟨x, Y, hx, nx, e⟩ := s_pick (n := n) hp ((headA ++ headB).map hdD) (by decide) (by decide)
    obtain ⟨h, hm, rfl⟩ := List.mem_map.mp hx
    refine ⟨h, Y, ?_, nx⟩
    rw [List.map_append, hB] at e
    have ad := addL (xs := headA.map hdD) (ys := [.str "Hh", .str "aB", .non, .int 3]) (by rw [List.length_map]; decide)
    have sj : (EV.cel j).see X = some (.lst (headA.map hdD)) := by simp only [EV.see]; rw [hj]; rfl
    generalize headA.map hdD = LA at *
    simp [envV, sj, ad, e]
theorem lc_st {step : D → Sto → Res (Option D)} {P : Vl → Prop} {L : Nat} (hs : ∀ (d : D) (μ : Sto), PotAt μ k → μ.length = L → ∃ (t : Vl) (μ' : Sto), step d μ = .ok (some t.d) μ' ∧ Nxt μ μ' k ∧ P t) (s : List D) (hl : s.length ≤ LIM) : ∀ (m i : Nat) (μ : Sto), PotAt μ k → μ.length = L → i ≤ s.length → s.length < i + m →
    ∃ (ts : List Vl) (μ' : Sto), lcLoop (.vals s) step m i μ = .ok (vds ts) μ' ∧ Nxt μ μ' k ∧ ts.length = s.length - i ∧ ∀ t ∈ ts, P t
  | 0, i, μ, hp, hL, h1, h2 => by omega
  | m + 1, i, μ, hp, hL, h1, h2 => by
    unfold lcLoop
    simp only [src_vals]
    cases e : s[i]? with
    | none =>
      have : s.length ≤ i := List.getElem?_eq_none_iff.mp e
      exact ⟨[], μ, rfl, .refl hp, by simp; omega, fun t ht => by simp at ht⟩
    | some d =>
      have hi : i < s.length := (List.getElem?_eq_some_iff.mp e).1
      obtain ⟨t, μ1, e1, n1, p1⟩ := hs d μ hp hL
      obtain ⟨ts, μ2, e2, n2, l2, p2⟩ := lc_st hs s hl m (i + 1) μ1 (n1.pot hp.lt) (by rw [n1.len]; exact hL) (by omega) (by omega)
      refine ⟨t :: ts, μ2, ?_, n1.trans n2, by rw [List.length_cons]; omega, fun u hu => (List.mem_cons.mp hu).elim (fun h => h ▸ p1) (p2 u)⟩
      simp only
      rw [if_pos (by omega), e1, Res.bind_ok, e2, Res.bind_ok]; rfl
theorem rng1 (m : Nat) (h : m ≤ 1000) : ∃ s, rangeOf [.dat (.int (m : Nat))] = some (.vals s) ∧ s.length = m := by
  have hc : -1000000 ≤ (m : Int) ∧ (m : Int) ≤ 1000000 := by omega
  exact ⟨_, if_pos hc, by simp⟩
theorem val6 {P : Vl → Prop} {d' : Nat} (ih : ∀ X : Sto, PotAt X k → ∃ (t : Vl) (Y : Sto), VM.run T (n + 1) 25 [.cel k, .dat (.int (d' : Nat)), .dat (.bl o)] X = .ok (.dat t.d) Y ∧ Nxt X Y k ∧ P t) (hp : PotAt X k) (a4 a5 : Option SV) :
    ∃ (ts : List Vl) (Y : Sto), (sSet 6 (eLc (iRange (evs [eCall 15 (evs [eV 0, eC (.int 4)])])) (.nm 7) (bYes) (eCall 25 (evs [eV 0, eBin .Sub (eV 1) (eC (.int 1)), eV 2])) [7])) (VM.run T (n + 1)) (envV k ((d' + 1 : Nat) : Int) o a4 a5 none) X = .ok (.nx (envV k ((d' + 1 : Nat) : Int) o a4 a5 (some (.cel Y.length)))) (Y ++ [cL (vds ts)]) ∧ Nxt X Y k ∧ ts.length ≤ 3 ∧ ∀ t ∈ ts, P t := by
  obtain ⟨mm, X1, hmm, n1, e1⟩ := s_draw (n := n) hp 4 (by decide) (by decide)
  obtain ⟨s, rg, sl⟩ := rng1 mm (by omega)
  have slm : s.length ≤ LIM := lim1 (by omega)
  have sb : opBin .Sub (.int ((d' + 1 : Nat) : Int)) (.int 1) = some (.dat (.int (d' : Nat))) := by
    show some (EV.dat (.int (((d' + 1 : Nat) : Int) - 1))) = _
    congr 3
    omega
  generalize ((d' + 1 : Nat) : Int) = D1 at sb ⊢
  obtain ⟨ts, Y, lc, n2, tl, tp⟩ := lc_st (k := k) (L := X1.length) (P := P)
    (step := lcStep (VM.run T (n + 1)) (.nm 7) bYes (eCall 25 (evs [eV 0, eBin .Sub (eV 1) (eC (.int 1)), eV 2])) [some (.cel k), some (.dat (.int D1)), some (.dat (.bl o)), none, a4, a5, none, none]) (fun d μ hp _ => by
      obtain ⟨t, μ', e, nx, pt⟩ := ih μ hp
      exact ⟨t, μ', by simp [asg, sb, e], nx, pt⟩) s slm (s.length + 1) 0 X1 (n1.pot hp.lt) rfl (Nat.zero_le _) (by omega)
  refine ⟨ts, Y, ?_, n1.trans n2, by omega, tp⟩
  have tlm : ts.length ≤ LIM := lim1 (by omega)
  simp [envV, e1, rg, wipeE, lc, vds_len, tlm, cL]
def restV : List Vl := [.lf .l19, .lf .l23, .lf .l24, .lf .l19]
theorem hR : restV.map Vl.d = [.str "*S", .str "*T", .str "*T1", .str "*S"] := rfl
theorem vds_app (a b : List Vl) : vds (a ++ b) = vds a ++ vds b := by rw [vds_map, vds_map, vds_map, List.map_append]
theorem val7 {ts : List Vl} (hp : PotAt X k) (hj : X[j]? = some (cL (vds ts))) (ne : j ≠ k) (hl : ts.length ≤ 3) (a4 a5 : Option SV) :
    ∃ (ts' : List Vl) (Y : Sto), (sIf (bCmp (opCmp .Eq) (eCall 15 (evs [eV 0, eC (.int 3)])) (eC (.int 0))) (sDrop (eCM aAppend (eV 6) (evs [eCall 16 (evs [eV 0, eLst (evs [eC (.str "*S"), eC (.str "*T"), eC (.str "*T1"), eC (.str "*S")])])]))) (sPass)) (VM.run T (n + 2)) (envV k dd o a4 a5 (some (.cel j))) X = .ok (.nx (envV k dd o a4 a5 (some (.cel j)))) Y ∧ Go X Y k j ∧ Y[j]? = some (cL (vds ts')) ∧ (ts' = ts ∨ ∃ r : Lf, ts' = ts ++ [.lf r]) := by
  obtain ⟨r, X1, hr, n1, e1⟩ := s_draw (n := n + 1) hp 3 (by decide) (by decide)
  have hp1 := n1.pot hp.lt
  have hj1 : X1[j]? = some (cL (vds ts)) := by rw [n1.get ne]; exact hj
  have q : opCmp .Eq (.int (r : Nat)) (.int 0) = some ((r : Int) == 0) := by simp only [opCmp, opEq_int]
  by_cases c : (r : Int) = 0
  · rw [beq_iff_eq.mpr c] at q
    obtain ⟨x, X2, hx, n2, e2⟩ := s_pick (n := n) hp1 (restV.map Vl.d) (by decide) (by decide)
    obtain ⟨t, hm, rfl⟩ := List.mem_map.mp hx
    obtain ⟨rr, rfl⟩ : ∃ rr : Lf, t = .lf rr := by
      simp only [restV, List.mem_cons, List.not_mem_nil, or_false] at hm
      rcases hm with rfl | rfl | rfl | rfl <;> exact ⟨_, rfl⟩
    rw [hR] at e2
    have hj2 : X2[j]? = some (cL (vds ts)) := by rw [n2.get ne]; exact hj1
    have jl : j < X2.length := (List.getElem?_eq_some_iff.mp hj2).1
    have ap : aAppend (vds ts) [(Vl.lf rr).d] = some (.non, vds (ts ++ [.lf rr])) := by
      rw [aAppend_c (by rw [vds_len]; exact lim2 (by omega)), vds_app]; rfl
    have n12 := n1.trans n2
    refine ⟨ts ++ [.lf rr], X2.set j (cL (vds (ts ++ [.lf rr]))), ?_, ⟨(n12.pot hp.lt).set ne, fun μ hm hjm e => (e.nxt hm n12).set hjm, by rw [List.length_set, n12.len]; exact Nat.le_refl _⟩, by rw [List.getElem?_set_self jl], .inr ⟨rr, rfl⟩⟩
    simp only [cL] at hj1 hj2
    generalize (Vl.lf rr).d = dr at *
    generalize vds (ts ++ [Vl.lf rr]) = LL at *
    simp [envV, e1, q, e2, hj1, hj2, ap, cL]
  · rw [beq_eq_false_iff_ne.mpr c] at q
    exact ⟨ts, X1, by simp [envV, e1, q], n1.go hp.lt, hj1, .inl rfl⟩
theorem val8 {ts : List Vl} (hp : PotAt X k) (hj : X[j]? = some (cL (vds ts))) (ne : j ≠ k) (hl : ts.length ≤ 4) (a4 a5 : Option SV) :
    ∃ (ts' : List Vl) (j' : Nat) (Y : Sto), (sIf (bAnd (bTru (eV 2)) (bCmp (opCmp .Eq) (eCall 15 (evs [eV 0, eC (.int 4)])) (eC (.int 0)))) (sSet 6 (eBin .Add (eLst (evs [eC (.str "*S")])) (eV 6))) (sPass)) (VM.run T (n + 2)) (envV k dd o a4 a5 (some (.cel j))) X = .ok (.nx (envV k dd o a4 a5 (some (.cel j')))) Y ∧ Go X Y k j ∧ Y[j']? = some (cL (vds ts')) ∧ (ts' = ts ∨ ts' = .lf .l19 :: ts) ∧ (j' = j ∨ j' = X.length) := by
  cases o with
  | false => exact ⟨ts, j, X, by simp [envV], (Nxt.refl hp).go hp.lt, hj, .inl rfl, .inl rfl⟩
  | true =>
    obtain ⟨r, X1, hr, n1, e1⟩ := s_draw (n := n + 1) hp 4 (by decide) (by decide)
    have hj1 : X1[j]? = some (cL (vds ts)) := by rw [n1.get ne]; exact hj
    have q : opCmp .Eq (.int (r : Nat)) (.int 0) = some ((r : Int) == 0) := by simp only [opCmp, opEq_int]
    by_cases c : (r : Int) = 0
    · rw [beq_iff_eq.mpr c] at q
      have ad := addL (xs := [.str "*S"]) (ys := vds ts) (by rw [vds_len]; simp; omega)
      have ev : [D.str "*S"] ++ vds ts = vds (.lf .l19 :: ts) := rfl
      rw [ev] at ad
      have sj : (EV.cel j).see X1 = some (.lst (vds ts)) := by simp only [EV.see]; rw [hj1]; rfl
      refine ⟨.lf .l19 :: ts, X.length, X1 ++ [cL (vds (.lf .l19 :: ts))], ?_, ⟨(n1.pot hp.lt).app, fun μ hm _ e => (e.nxt hm n1).push, by rw [List.length_append, n1.len]; omega⟩, ?_, .inr rfl, .inr rfl⟩
      · have hlen := n1.len
        generalize vds (Vl.lf .l19 :: ts) = LL at *
        simp [envV, e1, q, sj, ad, cL, hlen]
      · rw [← n1.len]; simp
    · rw [beq_eq_false_iff_ne.mpr c] at q
      exact ⟨ts, j, X1, by simp [envV, e1, q], n1.go hp.lt, hj1, .inl rfl, .inl rfl⟩
theorem val9 {ts : List Vl} {h : Hd} (hp : PotAt X k) (hj : X[j]? = some (cL (vds ts))) (ne : j ≠ k) (a4 : Option SV) :
    ∃ (s : Sc) (Y : Sto), (sRet (eIf (bAnd (bTru (eV 2)) (bCmp (opCmp .Eq) (eCall 15 (evs [eV 0, eC (.int 12)])) (eC (.int 0)))) (eTup (evs [eV 5, eV 6])) (eTup (evs [eV 5, eCb bTuple (evs [eV 6])])))) (VM.run T (n + 2)) (envV k dd o a4 (some (.dat (hdD h))) (some (.cel j))) X = .ok (.rt (.dat (Vl.app h s ts).d)) Y ∧ Go X Y k j := by
  have bt : bTuple [.lst (vds ts)] = some (.dat (.tup (vds ts))) := rfl
  have e0 : (Vl.app h .tup ts).d = .tup [hdD h, .tup (vds ts)] := rfl
  have e9 : (Vl.app h .lst ts).d = .tup [hdD h, .lst (vds ts)] := rfl
  cases o with
  | false =>
    have sj : (EV.cel j).see X = some (.lst (vds ts)) := by simp only [EV.see]; rw [hj]; rfl
    exact ⟨.tup, X, by rw [e0]; simp [envV, sj, bt], (Nxt.refl hp).go hp.lt⟩
  | true =>
    obtain ⟨r, X1, hr, n1, e1⟩ := s_draw (n := n + 1) hp 12 (by decide) (by decide)
    have hj1 : X1[j]? = some (cL (vds ts)) := by rw [n1.get ne]; exact hj
    have sj : (EV.cel j).see X1 = some (.lst (vds ts)) := by simp only [EV.see]; rw [hj1]; rfl
    have q : opCmp .Eq (.int (r : Nat)) (.int 0) = some ((r : Int) == 0) := by simp only [opCmp, opEq_int]
    by_cases c : (r : Int) = 0
    · rw [beq_iff_eq.mpr c] at q
      have fz : (EV.cel j).frz X1 = some (.lst (vds ts), X1.set j ⟨false, .lst (vds ts)⟩) := by simp only [EV.frz]; rw [hj1]; rfl
      refine ⟨.lst, X1.set j ⟨false, .lst (vds ts)⟩, by rw [e9]; simp [envV, e1, q, fz], ⟨(n1.pot hp.lt).set ne, fun μ hm hjm e => (e.nxt hm n1).set hjm, by rw [List.length_set, n1.len]; exact Nat.le_refl _⟩⟩
    · rw [beq_eq_false_iff_ne.mpr c] at q
      exact ⟨.tup, X1, by rw [e0]; simp [envV, e1, q, sj, bt], n1.go hp.lt⟩
end
end K11
set_option maxHeartbeats 0
/-! k11: drawn values. -/
namespace K11
open VM Law
open L2 (atI ixN)
def Sd : Nat → Nat
  | 0 => 1
  | d + 1 => 3 + 3 * Sd d
theorem Sd_pos (d : Nat) : 1 ≤ Sd d := by cases d <;> simp only [Sd] <;> omega
theorem szs_le {S : Nat} : ∀ {ts : List Vl}, (∀ t ∈ ts, sz t ≤ S) → szs ts ≤ ts.length * S
  | [], _ => by simp [szs]
  | t :: ts, h => by
    have h1 := h t List.mem_cons_self
    have h2 := szs_le fun u hu => h u (List.mem_cons_of_mem _ hu)
    simp only [szs, List.length_cons, Nat.add_mul]; omega
theorem deps_le {S : Nat} : ∀ {ts : List Vl}, (∀ t ∈ ts, dep t ≤ S) → deps ts ≤ S
  | [], _ => by simp [deps]
  | t :: ts, h => by
    have h1 := h t List.mem_cons_self
    have h2 := deps_le fun u hu => h u (List.mem_cons_of_mem _ hu)
    simp only [deps]; omega
theorem szs_app (a b : List Vl) : szs (a ++ b) = szs a + szs b := by
  rw [szs_sum, szs_sum, szs_sum, List.map_append, List.sum_append]
theorem deps_app : ∀ (a b : List Vl), deps (a ++ b) = max (deps a) (deps b)
  | [], b => by simp [deps]
  | t :: a, b => by
    simp only [List.cons_append, deps, deps_app a b]; omega
section
variable {n k : Nat} {μ X : Sto} {o : Bool}
/-- the leaf's branch -/
theorem val_leaf (d : Nat) (hp : PotAt X k) (dd : Int) : ∃ (t : Vl) (Y : Sto), (sSeq (sSet 3 (eCall 24 (evs [eV 0]))) (sRet (eIf (bOr (bTru (eV 2)) (bTru (eCall 22 (evs [eCall 21 (evs [eV 3])])))) (eV 3) (eC (.str "X"))))) (VM.run T (n + 4 + d)) (envV k dd o none none none) X = .ok (.rt (.dat t.d)) Y ∧ Nxt X Y k ∧ Tiny t := by
  obtain ⟨t, Y, e, nx, ht⟩ := s_leaf (n := n + 1 + d) hp
  rw [show n + 1 + d + 3 = n + 4 + d by omega] at e
  cases o with
  | true => exact ⟨t, Y, by simp [envV, e], nx, ht⟩
  | false =>
    have h1 : 1 ≤ dep t := by cases t <;> simp [dep]
    have hd : dep t = 1 := Nat.le_antisymm ht.1 h1
    have e1 := l_things t (n + d) (by have := ht.2; omega) Y
    rw [hd, show n + d + 3 + 1 = n + 4 + d by omega] at e1
    have hl := th_len t
    have h2 := ht.2
    unfold thO at e1
    by_cases w : wf false t = true
    · rw [if_pos w] at e1
      have e2 := l_isTermL (n := n + 3 + d) (μ := Y) (sv := .dat (.lst (thD t))) (L := th t) (.inl rfl) (by omega)
      rw [show n + 3 + d + 1 = n + 4 + d by omega] at e2
      cases b : oneOk ((th t).filter fun q => inS q.k) with
      | true =>
        rw [b] at e2
        exact ⟨t, Y, by simp [envV, e, e1, e2], nx, ht⟩
      | false =>
        rw [b] at e2
        exact ⟨.lf .l0, Y, by simp [envV, e, e1, e2]; rfl, nx, by simp [dep], by simp [sz]⟩
    · rw [if_neg w] at e1
      have e2 := l_isTermN (n := n + 3 + d) (μ := Y)
      rw [show n + 3 + d + 1 = n + 4 + d by omega] at e2
      exact ⟨.lf .l0, Y, by simp [envV, e, e1, e2]; rfl, nx, by simp [dep], by simp [sz]⟩
theorem s_value : ∀ (deep n : Nat) (μ : Sto), PotAt μ k → ∃ (t : Vl) (μ' : Sto), VM.run T (n + 5 + deep) 25 [.cel k, .dat (.int (deep : Nat)), .dat (.bl o)] μ = .ok (.dat t.d) μ' ∧ Nxt μ μ' k ∧ (dep t ≤ deep + 1 ∧ sz t ≤ Sd deep)
  | deep, n, μ, hp => by
    have hk := hp.lt
    rw [show n + 5 + deep = (n + 4 + deep) + 1 by omega, run_at (nl := 8) (b := P__law_value) (by rfl)]
    unfold P__law_value
    have st : startE 8 [.cel k, .dat (.int (deep : Nat)), .dat (.bl o)] = envV k (deep : Nat) o none none none := rfl
    rw [st]
    have q1 : opCmp .Eq (.int (deep : Nat)) (.int 0) = some ((deep : Int) == 0) := by simp only [opCmp, opEq_int]
    obtain ⟨w, μ1, hw, n1, e1⟩ := s_draw (n := n + 3 + deep) hp 3 (by decide) (by decide)
    rw [show n + 3 + deep + 1 = n + 4 + deep by omega] at e1
    have q2 : opCmp .Eq (.int (w : Nat)) (.int 0) = some ((w : Int) == 0) := by simp only [opCmp, opEq_int]
    have tk : ∀ Z : Sto, Nxt μ Z k → Z.take μ.length = Z := fun Z h => List.take_of_length_le (by rw [h.len]; exact Nat.le_refl _)
    -- the test of the first statement
    have leafEnd : ∀ (Z : Sto), Nxt μ Z k → (bOr (bCmp (opCmp .Eq) (eV 1) (eC (.int 0))) (bCmp (opCmp .Eq) (eCall 15 (evs [eV 0, eC (.int 3)])) (eC (.int 0)))) (VM.run T (n + 4 + deep)) (envV k (deep : Nat) o none none none) μ = .ok true Z →
        ∃ (t : Vl) (μ' : Sto), VM.callEnd μ.length ((sSeq (sIf (bOr (bCmp (opCmp .Eq) (eV 1) (eC (.int 0))) (bCmp (opCmp .Eq) (eCall 15 (evs [eV 0, eC (.int 3)])) (eC (.int 0)))) (sSeq (sSet 3 (eCall 24 (evs [eV 0]))) (sRet (eIf (bOr (bTru (eV 2)) (bTru (eCall 22 (evs [eCall 21 (evs [eV 3])])))) (eV 3) (eC (.str "X"))))) (sPass)) (sSeq (sSet 4 (eLst (evs [eC (.str "f"), eC (.str "g"), eC (.str "zz1"), eC (.str "H"), eC (.str "H"), eC (.str "K2"), eC (.str "p")]))) (sSeq (sSet 5 (eCall 16 (evs [eV 0, eIf (bTru (eV 2)) (eBin .Add (eV 4) (eLst (evs [eC (.str "Hh"), eC (.str "aB"), eC .non, eC (.int 3)]))) (eV 4)]))) (sSeq (sSet 6 (eLc (iRange (evs [eCall 15 (evs [eV 0, eC (.int 4)])])) (.nm 7) (bYes) (eCall 25 (evs [eV 0, eBin .Sub (eV 1) (eC (.int 1)), eV 2])) [7])) (sSeq (sIf (bCmp (opCmp .Eq) (eCall 15 (evs [eV 0, eC (.int 3)])) (eC (.int 0))) (sDrop (eCM aAppend (eV 6) (evs [eCall 16 (evs [eV 0, eLst (evs [eC (.str "*S"), eC (.str "*T"), eC (.str "*T1"), eC (.str "*S")])])]))) (sPass)) (sSeq (sIf (bAnd (bTru (eV 2)) (bCmp (opCmp .Eq) (eCall 15 (evs [eV 0, eC (.int 4)])) (eC (.int 0)))) (sSet 6 (eBin .Add (eLst (evs [eC (.str "*S")])) (eV 6))) (sPass)) (sRet (eIf (bAnd (bTru (eV 2)) (bCmp (opCmp .Eq) (eCall 15 (evs [eV 0, eC (.int 12)])) (eC (.int 0)))) (eTup (evs [eV 5, eV 6])) (eTup (evs [eV 5, eCb bTuple (evs [eV 6])])))))))))) (VM.run T (n + 4 + deep)) (envV k (deep : Nat) o none none none) μ) = .ok (.dat t.d) μ' ∧ Nxt μ μ' k ∧ (dep t ≤ deep + 1 ∧ sz t ≤ Sd deep) := fun Z nz ht => by
      obtain ⟨t, Y, e, nx, tt⟩ := val_leaf (n := n) (o := o) deep (nz.pot hk) (deep : Nat)
      have ny := nz.trans nx
      refine ⟨t, Y, ?_, ny, by have := tt.1; omega, by have := tt.2; have := Sd_pos deep; omega⟩
      simp only [xs_seq, xs_if, ht, Res.bind_ok] at e ⊢
      rw [e]
      simp [VM.callEnd, EV.out, tk Y ny]
    by_cases c1 : deep = 0
    · refine leafEnd μ (Nxt.refl hp) ?_
      rw [beq_iff_eq.mpr (show (deep : Int) = 0 by omega)] at q1
      simp [envV, q1]
    · by_cases c2 : w = 0
      · refine leafEnd μ1 n1 ?_
        rw [beq_eq_false_iff_ne.mpr (show (deep : Int) ≠ 0 by omega)] at q1
        rw [beq_iff_eq.mpr (show (w : Int) = 0 by omega)] at q2
        simp [envV, q1, e1, q2]
      · have ht : (bOr (bCmp (opCmp .Eq) (eV 1) (eC (.int 0))) (bCmp (opCmp .Eq) (eCall 15 (evs [eV 0, eC (.int 3)])) (eC (.int 0)))) (VM.run T (n + 4 + deep)) (envV k (deep : Nat) o none none none) μ = .ok false μ1 := by
          rw [beq_eq_false_iff_ne.mpr (show (deep : Int) ≠ 0 by omega)] at q1
          rw [beq_eq_false_iff_ne.mpr (show (w : Int) ≠ 0 by omega)] at q2
          simp [envV, q1, e1, q2]
        clear leafEnd q1 q2 e1
        obtain ⟨d', rfl⟩ : ∃ d', deep = d' + 1 := ⟨deep - 1, by omega⟩
        have hp1 := n1.pot hk
        have l1 : μ1.length = μ.length := n1.len
        have x1 : Ext μ μ1 k := (Ext.refl hp).nxt hk n1
        have s4 := val4 (k := k) (X := μ1) (F := VM.run T (n + 4 + (d' + 1))) (dd := ((d' + 1 : Nat) : Int)) (o := o)
        have hp4 : PotAt (μ1 ++ [cL (headA.map hdD)]) k := hp1.app
        have x4 : Ext μ (μ1 ++ [cL (headA.map hdD)]) k := x1.push
        have ne4 : μ1.length ≠ k := by have := hp1.lt; omega
        obtain ⟨h, X5, s5, n5⟩ := val5 (n := n + 2 + (d' + 1)) (o := o) (dd := ((d' + 1 : Nat) : Int)) hp4 (j := μ1.length) (by simp) ne4
        rw [show n + 2 + (d' + 1) + 2 = n + 4 + (d' + 1) by omega] at s5
        have hp5 := n5.pot hp4.lt
        have x5 := x4.nxt hk n5
        obtain ⟨ts, X6, s6, n6, tl, tp⟩ := val6 (n := n + 3 + (d' + 1)) (o := o) (d' := d') (P := fun t => dep t ≤ d' + 1 ∧ sz t ≤ Sd d') (fun X hX => by
          have := s_value d' n X hX
          rw [show n + 5 + d' = n + 3 + (d' + 1) + 1 by omega] at this
          exact this) hp5 (some (.cel μ1.length)) (some (.dat (hdD h)))
        rw [show n + 3 + (d' + 1) + 1 = n + 4 + (d' + 1) by omega] at s6
        have hp6 := n6.pot hp5.lt
        have x6 := (x5.nxt hk n6)
        have hp6' : PotAt (X6 ++ [cL (vds ts)]) k := hp6.app
        have x6' : Ext μ (X6 ++ [cL (vds ts)]) k := x6.push
        have ne6 : X6.length ≠ k := by have := hp6.lt; omega
        have le6 := x6.le
        obtain ⟨ts7, X7, s7, g7, gj7, ht7⟩ := val7 (n := n + 2 + (d' + 1)) (o := o) (dd := ((d' + 1 : Nat) : Int)) hp6' (j := X6.length) (by simp) ne6 tl (some (.cel μ1.length)) (some (.dat (hdD h)))
        rw [show n + 2 + (d' + 1) + 2 = n + 4 + (d' + 1) by omega] at s7
        have x7 := g7.ext μ hk le6 x6'
        have le7 := x7.le
        have tl7 : ts7.length ≤ 4 := by
          rcases ht7 with rfl | ⟨r, rfl⟩
          · omega
          · rw [List.length_append]; simp; omega
        obtain ⟨ts8, j8, X8, s8, g8, gj8, ht8, hj8⟩ := val8 (n := n + 2 + (d' + 1)) (o := o) (dd := ((d' + 1 : Nat) : Int)) g7.pot gj7 ne6 tl7 (some (.cel μ1.length)) (some (.dat (hdD h)))
        rw [show n + 2 + (d' + 1) + 2 = n + 4 + (d' + 1) by omega] at s8
        have x8 := g8.ext μ hk le6 x7
        have ne8 : j8 ≠ k := by
          rcases hj8 with rfl | rfl
          · exact ne6
          · have := g7.pot.lt; omega
        have le8 : μ.length ≤ j8 := by
          rcases hj8 with rfl | rfl
          · exact le6
          · exact le7
        obtain ⟨s, X9, s9, g9⟩ := val9 (n := n + 2 + (d' + 1)) (o := o) (dd := ((d' + 1 : Nat) : Int)) (h := h) g8.pot gj8 ne8 (some (.cel μ1.length))
        rw [show n + 2 + (d' + 1) + 2 = n + 4 + (d' + 1) by omega] at s9
        have x9 := g9.ext μ hk le8 x8
        have z1 : szs ts ≤ 3 * Sd d' := Nat.le_trans (szs_le fun t ht => (tp t ht).2) (Nat.mul_le_mul_right _ tl)
        have z2 := deps_le fun t ht => (tp t ht).1
        have z7 : szs ts7 ≤ 3 * Sd d' + 1 ∧ deps ts7 ≤ d' + 1 := by
          rcases ht7 with rfl | ⟨r, rfl⟩
          · omega
          · rw [szs_app, deps_app]; simp only [szs, sz, deps, dep]; omega
        have z8 : szs ts8 ≤ 3 * Sd d' + 2 ∧ deps ts8 ≤ d' + 1 := by
          rcases ht8 with rfl | rfl
          · omega
          · simp only [szs, sz, deps, dep]; omega
        refine ⟨.app h s ts8, X9.take μ.length, ?_, x9.fin, by simp only [dep]; omega, by simp only [sz, Sd]; omega⟩
        have k0 : (sIf (bOr (bCmp (opCmp .Eq) (eV 1) (eC (.int 0))) (bCmp (opCmp .Eq) (eCall 15 (evs [eV 0, eC (.int 3)])) (eC (.int 0)))) (sSeq (sSet 3 (eCall 24 (evs [eV 0]))) (sRet (eIf (bOr (bTru (eV 2)) (bTru (eCall 22 (evs [eCall 21 (evs [eV 3])])))) (eV 3) (eC (.str "X"))))) (sPass)) (VM.run T (n + 4 + (d' + 1))) (envV k ((d' + 1 : Nat) : Int) o none none none) μ = .ok (.nx (envV k ((d' + 1 : Nat) : Int) o none none none)) μ1 := by
          simp only [xs_if, ht, Res.bind_ok]; rfl
        rw [xs_seq, k0]
        simp only
        rw [xs_seq, s4]
        simp only
        rw [xs_seq, s5]
        simp only
        rw [xs_seq, s6]
        simp only
        rw [xs_seq, s7]
        simp only
        rw [xs_seq, s8]
        simp only
        rw [s9]
        rfl
end
end K11
set_option maxHeartbeats 0
/-! k11: values far down. -/
namespace K11
open VM Law
open L2 (atI ixN)
section
variable {n k : Nat} {μ X : Sto}
theorem aInsert_c {l : List D} {p : Nat} {d : D} (h1 : p < LIM) (h2 : l.length < LIM) : aInsert l [.int (p : Nat), d] = some (.non, l.take p ++ [d] ++ l.drop p) := by
  have c : (0 : Int) ≤ (p : Nat) ∧ ((p : Nat) : Int) < (LIM : Nat) ∧ l.length < LIM := ⟨Int.natCast_nonneg _, Int.ofNat_lt.mpr h1, h2⟩
  simp only [aInsert]
  rw [if_pos c, Int.toNat_natCast]
theorem ins_eq {F : Fns} {act : Act} {X2 X3 : Sto} {L L' : List D} {m p : Int} {td : D} (o1 o3 o5 : Option SV) (hl : X3.length = X2.length) (bl : bLen [.lst L] = some (.dat (.int m))) (e3 : F 15 [.cel k, .dat (.int (m + 1))] (X2 ++ [⟨true, .lst L⟩]) = .ok (.dat (.int p)) (X3 ++ [⟨true, .lst L⟩])) (ai : act L [.int p, td] = some (.non, L')) :
    sDrop (eCM act (eV 4) (evs [eCall 15 (evs [eV 0, eBin .Add (eCb bLen (evs [eV 4])) (eC (.int 1))]), eV 2])) F [some (.cel k), o1, some (.dat td), o3, some (.cel X2.length), o5] (X2 ++ [⟨true, .lst L⟩]) = .ok (.nx [some (.cel k), o1, some (.dat td), o3, some (.cel X2.length), o5]) (X3 ++ [⟨true, .lst L'⟩]) := by
  have g2 : (X2 ++ [(⟨true, .lst L⟩ : Cell)])[X2.length]? = some ⟨true, .lst L⟩ := get_a0
  have g3 : (X3 ++ [(⟨true, .lst L⟩ : Cell)])[X2.length]? = some ⟨true, .lst L⟩ := by rw [← hl]; exact get_a0
  have s3 : (X3 ++ [(⟨true, .lst L⟩ : Cell)]).set X2.length ⟨true, .lst L'⟩ = X3 ++ [⟨true, .lst L'⟩] := by rw [← hl]; exact set_a0
  simp [EV.see, g2, bl, addI, e3, g3, ai, s3]
def headC : List Hd := [.h7, .h8, .h11, .h12, .h10]
theorem hC : headC.map hdD = [.str "f", .str "g", .str "H", .str "K2", .str "p"] := rfl
def chB : SS := (sSeq (sSet 4 (eLc (iRange (evs [eCall 15 (evs [eV 0, eC (.int 4)])])) (.nm 5) (bYes) (eCall 25 (evs [eV 0, eC (.int 0), eC (.bl false)])) [5])) (sSeq (sDrop (eCM aInsert (eV 4) (evs [eCall 15 (evs [eV 0, eBin .Add (eCb bLen (evs [eV 4])) (eC (.int 1))]), eV 2]))) (sSet 2 (eTup (evs [eCall 16 (evs [eV 0, eLst (evs [eC (.str "f"), eC (.str "g"), eC (.str "H"), eC (.str "K2"), eC (.str "p")])]), eCb bTuple (evs [eV 4])])))))
theorem dep_pos (t : Vl) : 1 ≤ dep t := by cases t <;> simp [dep]
theorem ch_step (o1 o3 o4 o5 : Option SV) (t : Vl) (hp : PotAt X k) : ∃ (t' : Vl) (q4 q5 : Option SV) (Y : Sto) (c : Cell),
    chB (VM.run T (n + 5)) [some (.cel k), o1, some (.dat t.d), o3, o4, o5] X = .ok (.nx [some (.cel k), o1, some (.dat t'.d), o3, q4, q5]) (Y ++ [c]) ∧ Nxt X Y k ∧ dep t' ≤ dep t + 1 ∧ sz t' ≤ sz t + 4 := by
  have hk := hp.lt
  have hd1 := dep_pos t
  obtain ⟨mm, X1, hmm, n1, e1⟩ := s_draw (n := n + 4) hp 4 (by decide) (by decide)
  have hp1 := n1.pot hk
  obtain ⟨s, rg, sl⟩ := rng1 mm (by omega)
  obtain ⟨ts, X2, lc, n2, tl, tp⟩ := lc_st (k := k) (L := X1.length) (P := fun t => dep t ≤ 0 + 1 ∧ sz t ≤ Sd 0)
    (step := lcStep (VM.run T (n + 5)) (.nm 5) bYes (eCall 25 (evs [eV 0, eC (.int 0), eC (.bl false)])) [some (.cel k), o1, some (.dat t.d), o3, o4, none]) (fun d μ hp _ => by
      obtain ⟨t, μ', e, nx, pt⟩ := s_value (o := false) 0 n μ hp
      refine ⟨t, μ', ?_, nx, pt⟩
      simp at e
      simp [asg, e]) s (lim1 (by omega)) (s.length + 1) 0 X1 hp1 rfl (Nat.zero_le _) (by omega)
  have hp2 := n2.pot hp1.lt
  have lm : (vds ts).length ≤ LIM := by rw [vds_len]; exact lim1 (by omega)
  have eA : (sSet 4 (eLc (iRange (evs [eCall 15 (evs [eV 0, eC (.int 4)])])) (.nm 5) (bYes) (eCall 25 (evs [eV 0, eC (.int 0), eC (.bl false)])) [5])) (VM.run T (n + 5)) [some (.cel k), o1, some (.dat t.d), o3, o4, o5] X = .ok (.nx [some (.cel k), o1, some (.dat t.d), o3, some (.cel X2.length), o5]) (X2 ++ [⟨true, .lst (vds ts)⟩]) := by
    rw [show n + 4 + 1 = n + 5 by omega] at e1
    simp [e1, rg, wipeE, lc, lm]
  obtain ⟨p, X3x, hpp, n3x, e3⟩ := s_draw (n := n + 4) (hp2.app (E := [⟨true, .lst (vds ts)⟩])) ((ts.length : Nat) + 1) (by omega) (by omega)
  rw [show n + 4 + 1 = n + 5 by omega] at e3
  obtain ⟨X3, rfl, n3⟩ := n3x.app hp2.lt
  have hp3 := n3.pot hp2.lt
  obtain ⟨us, us_e⟩ : ∃ us : List Vl, us = ts.take p ++ t :: ts.drop p := ⟨_, rfl⟩
  have hus : ∀ u ∈ us, dep u ≤ dep t := fun u hu => by
    rw [us_e] at hu
    rcases List.mem_append.mp hu with hu | hu
    · have := tp u (List.mem_of_mem_take hu); omega
    · rcases List.mem_cons.mp hu with rfl | hu
      · exact Nat.le_refl _
      · have := tp u (List.mem_of_mem_drop hu); omega
  have du : vds us = (vds ts).take p ++ [t.d] ++ (vds ts).drop p := by
    rw [us_e, vds_map, vds_map]
    simp
  have zt : szs ts ≤ 3 := by
    have := szs_le fun t ht => (tp t ht).2
    simp only [Sd] at this
    omega
  have zu : szs us ≤ sz t + 3 := by
    have h1 : szs us = szs (ts.take p) + (sz t + szs (ts.drop p)) := by simp only [us_e, szs_app, szs]
    have h2 : szs ts = szs (ts.take p) + szs (ts.drop p) := by rw [← szs_app, List.take_append_drop]
    omega
  have zd := deps_le fun u hu => hus u hu
  have eB : (sDrop (eCM aInsert (eV 4) (evs [eCall 15 (evs [eV 0, eBin .Add (eCb bLen (evs [eV 4])) (eC (.int 1))]), eV 2]))) (VM.run T (n + 5)) [some (.cel k), o1, some (.dat t.d), o3, some (.cel X2.length), o5] (X2 ++ [⟨true, .lst (vds ts)⟩]) = .ok (.nx [some (.cel k), o1, some (.dat t.d), o3, some (.cel X2.length), o5]) (X3 ++ [⟨true, .lst (vds us)⟩]) := by
    have bl : bLen [.lst (vds ts)] = some (.dat (.int (ts.length : Nat))) := by
      show some (EV.dat (.int ((vds ts).length : Nat))) = _
      rw [vds_len]
    have ai : aInsert (vds ts) [.int (p : Nat), t.d] = some (.non, vds us) := by
      rw [du]
      exact aInsert_c (lim2 (by omega)) (by rw [vds_len]; exact lim2 (by omega))
    exact ins_eq o1 o3 o5 n3.len bl e3 ai
  obtain ⟨x, X6x, hx, n6x, e6⟩ := s_pick (n := n + 3) (hp3.app (E := [⟨true, .lst (vds us)⟩])) (headC.map hdD) (by decide) (by decide)
  rw [show n + 3 + 2 = n + 5 by omega] at e6
  obtain ⟨X6, rfl, n6⟩ := n6x.app hp3.lt
  obtain ⟨h, hm, rfl⟩ := List.mem_map.mp hx
  rw [hC] at e6
  have l6 : X6.length = X2.length := by rw [n6.len, n3.len]
  have g6 : (X6 ++ [(⟨true, .lst (vds us)⟩ : Cell)])[X2.length]? = some ⟨true, .lst (vds us)⟩ := by rw [← l6]; exact get_a0
  have bt : bTuple [.lst (vds us)] = some (.dat (.tup (vds us))) := rfl
  have e0 : (Vl.app h .tup us).d = .tup [hdD h, .tup (vds us)] := rfl
  refine ⟨.app h .tup us, some (.cel X2.length), o5, X6, ⟨true, .lst (vds us)⟩, ?_, ((n1.trans n2).trans n3).trans n6, by simp only [dep]; omega, by simp only [sz]; omega⟩
  unfold chB
  rw [xs_seq, eA]
  simp only
  rw [xs_seq, eB]
  simp only
  rw [e0]
  simp [e6, EV.see, g6, bt]
theorem ch_loop (s : List D) (o1 : Option SV) : ∀ (m i : Nat) (t : Vl) (o3 o4 o5 : Option SV) (X : Sto), Ext μ X k → PotAt μ k → i ≤ s.length → s.length < i + m → ∃ (t' : Vl) (q3 q4 q5 : Option SV) (Y : Sto),
    forL (VM.run T (n + 5)) (.vals s) (gNm 3) chB m i [some (.cel k), o1, some (.dat t.d), o3, o4, o5] X = .ok (.nx [some (.cel k), o1, some (.dat t'.d), q3, q4, q5]) Y ∧ Ext μ Y k ∧ dep t' ≤ dep t + (s.length - i) ∧ sz t' ≤ sz t + 4 * (s.length - i)
  | 0, i, t, o3, o4, o5, X, _, _, h1, h2 => by omega
  | m + 1, i, t, o3, o4, o5, X, hx, hp, h1, h2 => by
    unfold forL
    simp only [src_vals]
    cases e : s[i]? with
    | none =>
      have : s.length ≤ i := List.getElem?_eq_none_iff.mp e
      exact ⟨t, o3, o4, o5, X, rfl, hx, by omega, by omega⟩
    | some d =>
      have hi : i < s.length := (List.getElem?_eq_some_iff.mp e).1
      have hpx : PotAt X k := by
        obtain ⟨μc, E, rfl, n1⟩ := hx
        exact (n1.pot hp.lt).app
      obtain ⟨t', q4, q5, Y, c, e1, n1, r3, r4⟩ := ch_step (n := n) o1 (some (.dat d)) o4 o5 t hpx
      obtain ⟨t2, p3, p4, p5, Z, e2, x2, s3, s4⟩ := ch_loop s o1 m (i + 1) t' (some (.dat d)) q4 q5 (Y ++ [c]) (hx.nxt hp.lt n1).push hp hi (by omega)
      refine ⟨t2, p3, p4, p5, Z, ?_, x2, by omega, by omega⟩
      simp only [xg_nm, Res.bind_ok, List.set_cons_succ, List.set_cons_zero]
      rw [e1]
      exact e2
theorem s_chain (o : Bool) (hp : PotAt μ k) : ∃ (t : Vl) (μ' : Sto), VM.run T (n + 7) 26 [.cel k, .dat (.bl o)] μ = .ok (.dat t.d) μ' ∧ Nxt μ μ' k ∧ dep t ≤ 17 ∧ sz t ≤ 66 := by
  have hk := hp.lt
  obtain ⟨t, μ1, e1, n1, o3, o4⟩ := s_value (o := o) 1 n μ hp
  have hp1 := n1.pot hk
  obtain ⟨mm, μ2, hmm, n2, e2⟩ := s_draw (n := n + 5) hp1 11 (by decide) (by decide)
  have hp2 := n2.pot hp1.lt
  obtain ⟨s, rg, sl⟩ := rng1 (5 + mm) (by omega)
  obtain ⟨t', q2, q3, q4, Y, e3, x3, r3, r4⟩ := ch_loop (n := n + 1) (μ := μ2) s (some (.dat (.bl o))) (s.length + 1) 0 t none none none μ2 (.refl hp2) hp2 (Nat.zero_le _) (by omega)
  have f3 := x3.fin
  rw [n2.len, n1.len] at f3
  refine ⟨t', Y.take μ.length, ?_, (n1.trans n2).trans f3, by omega, by simp only [Sd] at o4; omega⟩
  rw [show n + 7 = n + 6 + 1 by omega, run_at (nl := 6) (b := P__law_chain) (by rfl)]
  rw [show n + 5 + 1 = n + 6 by omega] at e1 e2
  rw [show n + 1 + 5 = n + 6 by omega] at e3
  rw [Int.natCast_add] at rg
  simp at e1 rg
  unfold chB at e3
  unfold P__law_chain
  simp [startE, e1, addI, e2, rg, e3, VM.callEnd, EV.out]
end
end K11
set_option maxHeartbeats 0
/-! k11: the law. -/
namespace K11
open VM Law
open L2 (atI ixN)
theorem ne_str {x : PySem.Str} : opCmp .NotEq (.str x) (.str x) = some false := by
  simp [opCmp, opEq, txEq]
theorem ne3 (a b c : Bool) : opCmp .NotEq (.lst [.bl a, .bl b, .bl c]) (.lst [.bl a, .bl b, .bl c]) = some false := by
  cases a <;> cases b <;> cases c <;> decide +kernel
theorem ok3 (a b c : Bool) : reprOk (.lst [.bl a, .bl b, .bl c]) = true := by
  cases a <;> cases b <;> cases c <;> decide +kernel
theorem rep3 (a b c : Bool) : ∃ x, fRepr [.lst [.bl a, .bl b, .bl c]] = some (.dat (.str x)) := by
  exact ⟨_, if_pos (show (isSeq (.lst [.bl a, .bl b, .bl c]) && reprOk (.lst [.bl a, .bl b, .bl c])) = true by rw [ok3 a b c]; rfl)⟩
theorem told_due (t : Vl) : (wf false t && (stT t).isEmpty) = (isTm t && (stT t).isEmpty) := by
  unfold isTm
  cases h : stT t with
  | nil => simp [oneOk]
  | cons a l => simp
def lawB : SS := (sSeq (sSet 3 (eCmp (opCmp .Eq) (eCall 15 (evs [eV 1, eC (.int 3)])) (eC (.int 0)))) (sSeq (sSet 4 (eIf (bCmp (opCmp .Eq) (eCall 15 (evs [eV 1, eC (.int 5)])) (eC (.int 0))) (eCall 26 (evs [eV 1, eV 3])) (eCall 25 (evs [eV 1, eBin .Add (eC (.int 1)) (eCall 15 (evs [eV 1, eC (.int 3)])), eV 3])))) (sSeq (sSet 5 (eLst (evs [eCall 11 (evs [eV 4]), eCall 12 (evs [eV 4]), eCall 13 (evs [eV 4])]))) (sSeq (sIf (bCmp (opCmp .NotEq) (eCb fRepr (evs [eV 5])) (eCb fRepr (evs [eCall 23 (evs [eV 4])]))) (sRet (eC (.bl false))) (sPass)) (sIf (bCmp (opCmp .NotEq) (eLst (evs [eCallK 11 (evs []) (evs [eV 4]) [0], eCallK 12 (evs []) (evs [eV 4]) [0], eCallK 13 (evs []) (evs [eV 4]) [0]])) (eV 5)) (sRet (eC (.bl false))) (sPass))))))
section
variable {X : Sto}
theorem law_val (o : Bool) (o0 o2 q4 q5 : Option SV) (hp : PotAt X 0) : ∃ (t : Vl) (Y : Sto), (sSet 4 (eIf (bCmp (opCmp .Eq) (eCall 15 (evs [eV 1, eC (.int 5)])) (eC (.int 0))) (eCall 26 (evs [eV 1, eV 3])) (eCall 25 (evs [eV 1, eBin .Add (eC (.int 1)) (eCall 15 (evs [eV 1, eC (.int 3)])), eV 3])))) (VM.run T 99) [o0, some (.cel 0), o2, some (.dat (.bl o)), q4, q5] X = .ok (.nx [o0, some (.cel 0), o2, some (.dat (.bl o)), some (.dat t.d), q5]) Y ∧ Nxt X Y 0 ∧ dep t ≤ 17 ∧ sz t ≤ 66 := by
  obtain ⟨w, X1, hw, n1, e1⟩ := s_draw (n := 98) hp 5 (by decide) (by decide)
  have hp1 := n1.pot hp.lt
  have q : opCmp .Eq (.int (w : Nat)) (.int 0) = some ((w : Int) == 0) := by simp only [opCmp, opEq_int]
  by_cases c : (w : Int) = 0
  · rw [beq_iff_eq.mpr c] at q
    obtain ⟨t, Y, e, nx, h1, h2⟩ := s_chain (n := 92) o hp1
    simp only [show 98 + 1 = 99 from rfl] at e1
    simp only [show 92 + 7 = 99 from rfl] at e
    generalize VM.run T 99 = F at *
    exact ⟨t, Y, by simp [e1, q, e], n1.trans nx, h1, h2⟩
  · rw [beq_eq_false_iff_ne.mpr c] at q
    obtain ⟨r, X2, hr, n2, e2⟩ := s_draw (n := 98) hp1 3 (by decide) (by decide)
    have hp2 := n2.pot hp1.lt
    have hr3 : r < 3 := by omega
    obtain ⟨t, Y, e, nx, h1, h2⟩ := s_value (o := o) (1 + r) (93 - r) X2 hp2
    rw [show 93 - r + 5 + (1 + r) = 99 by omega] at e
    simp only [show 98 + 1 = 99 from rfl] at e1 e2
    have hS : Sd (1 + r) ≤ 66 := by
      have : r = 0 ∨ r = 1 ∨ r = 2 := by omega
      rcases this with rfl | rfl | rfl <;> decide
    have ad : opBin .Add (.int 1) (.int (r : Nat)) = some (.dat (.int ((1 + r : Nat) : Int))) := by
      show some (EV.dat (.int (1 + (r : Int)))) = _
      rw [Int.natCast_add]; rfl
    generalize ((1 + r : Nat) : Int) = RR at *
    generalize VM.run T 99 = F at *
    exact ⟨t, Y, by simp [e1, q, e2, ad, e], (n1.trans n2).trans nx, by omega, by omega⟩
theorem law_turn (o0 o2 q3 q4 q5 : Option SV) (hp : PotAt X 0) : ∃ (p3 p4 p5 : Option SV) (Y : Sto), lawB (VM.run T 99) [o0, some (.cel 0), o2, q3, q4, q5] X = .ok (.nx [o0, some (.cel 0), o2, p3, p4, p5]) Y ∧ PotAt Y 0 := by
  obtain ⟨w, X1, hw, n1, e1⟩ := s_draw (n := 98) hp 3 (by decide) (by decide)
  have hp1 := n1.pot hp.lt
  have q : opCmp .Eq (.int (w : Nat)) (.int 0) = some ((w : Int) == 0) := by simp only [opCmp, opEq_int]
  simp only [show 98 + 1 = 99 from rfl] at e1
  have a1 : (sSet 3 (eCmp (opCmp .Eq) (eCall 15 (evs [eV 1, eC (.int 3)])) (eC (.int 0)))) (VM.run T 99) [o0, some (.cel 0), o2, q3, q4, q5] X = .ok (.nx [o0, some (.cel 0), o2, some (.dat (.bl ((w : Int) == 0))), q4, q5]) X1 := by
    generalize VM.run T 99 = F at *
    simp [e1, q]
  obtain ⟨t, Y, a2, n2, h1, h2⟩ := law_val ((w : Int) == 0) o0 o2 q4 q5 hp1
  have hp2 := n2.pot hp1.lt
  have t1 := s_isTerm (n := 95) (μ := Y) t (by omega)
  have t2 := s_isKind (n := 95) (μ := Y) t (by omega)
  have t3 := s_isPat (n := 94) (μ := Y) t (by omega)
  rw [told_due] at t2
  simp only [show 95 + 4 = 99 from rfl] at t1 t2
  simp only [show 94 + 5 = 99 from rfl] at t3
  have Z1 := s_isTerm (n := 95) (μ := Y ++ [cL (dueL t)]) t (by omega)
  have Z2 := s_isKind (n := 95) (μ := Y ++ [cL (dueL t)]) t (by omega)
  have Z3 := s_isPat (n := 94) (μ := Y ++ [cL (dueL t)]) t (by omega)
  have Z4 := l_due (n := 95 - dep t) (μ := Y ++ [cL (dueL t)]) t (by omega)
  rw [told_due] at Z2
  rw [show 95 - dep t + 4 + dep t = 99 by omega] at Z4
  simp only [show 95 + 4 = 99 from rfl] at Z1 Z2
  simp only [show 94 + 5 = 99 from rfl] at Z3
  have a3 : (sSet 5 (eLst (evs [eCall 11 (evs [eV 4]), eCall 12 (evs [eV 4]), eCall 13 (evs [eV 4])]))) (VM.run T 99) [o0, some (.cel 0), o2, some (.dat (.bl ((w : Int) == 0))), some (.dat t.d), q5] Y = .ok (.nx [o0, some (.cel 0), o2, some (.dat (.bl ((w : Int) == 0))), some (.dat t.d), some (.cel Y.length)]) (Y ++ [cL (dueL t)]) := by
    generalize VM.run T 99 = F at *
    simp [t1, t2, t3, dueL, cL]
  obtain ⟨x, rx⟩ := rep3 (isTm t) (isTm t && (stT t).isEmpty) (isTm t && (small t && noZ t))
  have rx : fRepr [.lst (dueL t)] = some (.dat (.str x)) := rx
  have see : (EV.cel Y.length).see (Y ++ [cL (dueL t)]) = some (.lst (dueL t)) := by simp [EV.see, cL]
  have a4 : (sIf (bCmp (opCmp .NotEq) (eCb fRepr (evs [eV 5])) (eCb fRepr (evs [eCall 23 (evs [eV 4])]))) (sRet (eC (.bl false))) (sPass)) (VM.run T 99) [o0, some (.cel 0), o2, some (.dat (.bl ((w : Int) == 0))), some (.dat t.d), some (.cel Y.length)] (Y ++ [cL (dueL t)]) = .ok (.nx [o0, some (.cel 0), o2, some (.dat (.bl ((w : Int) == 0))), some (.dat t.d), some (.cel Y.length)]) (Y ++ [cL (dueL t)]) := by
    generalize VM.run T 99 = F at *
    generalize Y ++ [cL (dueL t)] = YY at *
    generalize dueL t = DL at *
    simp [see, rx, Z4, ne_str]
  have n3 : opCmp .NotEq (.lst (dueL t)) (.lst (dueL t)) = some false := ne3 _ _ _
  have a5 : (sIf (bCmp (opCmp .NotEq) (eLst (evs [eCallK 11 (evs []) (evs [eV 4]) [0], eCallK 12 (evs []) (evs [eV 4]) [0], eCallK 13 (evs []) (evs [eV 4]) [0]])) (eV 5)) (sRet (eC (.bl false))) (sPass)) (VM.run T 99) [o0, some (.cel 0), o2, some (.dat (.bl ((w : Int) == 0))), some (.dat t.d), some (.cel Y.length)] (Y ++ [cL (dueL t)]) = .ok (.nx [o0, some (.cel 0), o2, some (.dat (.bl ((w : Int) == 0))), some (.dat t.d), some (.cel Y.length)]) (Y ++ [cL (dueL t)]) := by
    generalize VM.run T 99 = F at *
    generalize Y ++ [cL (dueL t)] = YY at *
    unfold dueL at see n3
    simp [eCallK, Z1, Z2, Z3, see, n3]
  refine ⟨some (.dat (.bl ((w : Int) == 0))), some (.dat t.d), some (.cel Y.length), Y ++ [cL (dueL t)], ?_, hp2.app⟩
  unfold lawB
  rw [xs_seq, a1]
  simp only
  rw [xs_seq, a2]
  simp only
  rw [xs_seq, a3]
  simp only
  rw [xs_seq, a4]
  simp only
  exact a5
theorem law_loop (o0 : Option SV) (s : List D) : ∀ (m i : Nat) (o2 q3 q4 q5 : Option SV) (X : Sto), PotAt X 0 → i ≤ s.length → s.length < i + m → ∃ (p2 p3 p4 p5 : Option SV) (Y : Sto), forL (VM.run T 99) (.vals s) (gNm 2) lawB m i [o0, some (.cel 0), o2, q3, q4, q5] X = .ok (.nx [o0, some (.cel 0), p2, p3, p4, p5]) Y
  | 0, i, o2, q3, q4, q5, X, _, h1, h2 => by omega
  | m + 1, i, o2, q3, q4, q5, X, hp, h1, h2 => by
    unfold forL
    simp only [src_vals]
    cases e : s[i]? with
    | none => exact ⟨o2, q3, q4, q5, X, rfl⟩
    | some d =>
      have hi : i < s.length := (List.getElem?_eq_some_iff.mp e).1
      obtain ⟨p3, p4, p5, Y, e1, h⟩ := law_turn o0 (some (.dat d)) q3 q4 q5 hp
      obtain ⟨r2, r3, r4, r5, Z, e2⟩ := law_loop o0 s m (i + 1) (some (.dat d)) p3 p4 p5 Y h hi (by omega)
      refine ⟨r2, r3, r4, r5, Z, ?_⟩
      simp only [xg_nm, Res.bind_ok, List.set_cons_succ, List.set_cons_zero]
      rw [e1]
      exact e2
end
end K11
namespace Law
open VM
theorem law_runs (ns : List Int) (h : ns.length ≤ 63) : ∃ μ, VM.run T depth 27 [.dat (.scr ns)] [] = .ok (.dat (.bl true)) μ := by
  obtain ⟨a, b, e1⟩ := K11.s_pot (n := 98) (μ := []) ns h
  simp only [show 98 + 1 = 99 from rfl] at e1
  obtain ⟨s, rg, sl⟩ := K11.rng1 4 (by decide)
  obtain ⟨p2, p3, p4, p5, Y, e2⟩ := K11.law_loop (some (.dat (.scr ns))) s (s.length + 1) 0 none none none none [K11.potC a b] ⟨a, b, rfl⟩ (Nat.zero_le _) (by omega)
  have : ∀ F, F = VM.run T 99 → ∃ μ, VM.callEnd 0 (P_law F (startE 6 [.dat (.scr ns)]) []) = .ok (.dat (.bl true)) μ := by
    intro F hF
    rw [← hF] at e1 e2
    unfold K11.lawB K11.potC at e2
    unfold P_law
    simp at rg
    exact ⟨_, by simp [startE, e1, rg, e2, VM.callEnd, EV.out]; rfl⟩
  obtain ⟨μ, e⟩ := this _ rfl
  exact ⟨μ, by rw [show depth = 99 + 1 from rfl, K11.run_at (nl := 6) (b := P_law) (by rfl)]; exact e⟩
end Law
open PySem PySem.W PyProof.Rows
set_option maxRecDepth 100000 in
set_option maxHeartbeats 0 in
theorem PySem.Challenge.cw_nearestpattern_k11_any_value_as_term_holds : PySem.Challenge.rw_nearestpattern_k11_any_value_as_term.Holds := by
  w_on; o_law; k_head; (case hw => w_witness2)
  k_fill
  refine Law.walk (l := PySem.Challenge.rw_nearestpattern_k11_any_value_as_term) rfl rfl Law.law_runs (fun w h Y => PySem.W.kIn_of Y) ?F
  case F =>
    intro w mg fa h KX G hmg
    refine' Law.all_mk KX G hmg ?a_is_integer ?l_is_integer ?e_is_integer ?k_is_integer ?a_is_name ?l_is_name ?e_is_name ?k_is_name ?a_is_variable ?l_is_variable ?e_is_variable ?k_is_variable ?a_is_head ?l_is_head ?e_is_head ?k_is_head ?a_is_rest ?l_is_rest ?e_is_rest ?k_is_rest ?a_is_applied ?l_is_applied ?e_is_applied ?k_is_applied ?a_standings ?l_standings ?e_standings ?k_standings ?a_have_one_sort ?l_have_one_sort ?e_have_one_sort ?k_have_one_sort ?a_pieces ?l_pieces ?e_pieces ?k_pieces ?a_numbers_of ?l_numbers_of ?e_numbers_of ?k_numbers_of ?a_names_of ?l_names_of ?e_names_of ?k_names_of ?a_is_term ?l_is_term ?e_is_term ?k_is_term ?a_is_kind ?l_is_kind ?e_is_kind ?k_is_kind ?a_is_pattern ?l_is_pattern ?e_is_pattern ?k_is_pattern ?a__law_pot ?l__law_pot ?e__law_pot ?k__law_pot ?a__law_draw ?l__law_draw ?e__law_draw ?k__law_draw ?a__law_pick ?l__law_pick ?e__law_pick ?k__law_pick ?a__law_are_in ?l__law_are_in ?e__law_are_in ?k__law_are_in ?a__law_is_name ?l__law_is_name ?e__law_is_name ?k__law_is_name ?a__law_is_variable ?l__law_is_variable ?e__law_is_variable ?k__law_is_variable ?a__law_is_number ?l__law_is_number ?e__law_is_number ?k__law_is_number ?a__law_things ?l__law_things ?e__law_things ?k__law_things ?a__law_is_term ?l__law_is_term ?e__law_is_term ?k__law_is_term ?a__law_due ?l__law_due ?e__law_due ?k__law_due ?a__law_leaf ?l__law_leaf ?e__law_leaf ?k__law_leaf ?a__law_value ?l__law_value ?e__law_value ?k__law_value ?a__law_chain ?l__law_chain ?e__law_chain ?k__law_chain ?a_law ?l_law ?e_law ?k_law ?z_abs ?z_all ?z_any ?z_bool ?z_divmod ?z_enumerate ?z_int ?z_isinstance ?z_len ?z_max ?z_range ?z_repr ?z_set ?z_sorted ?z_str ?z_tuple ?c_DIGITS ?c_FRESH_NAME ?c_GREAT ?c_HEAD ?c_MOST_DIGITS ?c_MOST_NUMBER ?c_MOST_SIGNS ?c_REST ?c_SMALL ?c_TERM
    (case a_is_integer => k_is)
    (case l_is_integer => k_is)
    (case e_is_integer => k_is)
    (case k_is_integer => k_is)
    (case a_is_name => k_is)
    (case l_is_name => k_is)
    (case e_is_name => k_is)
    (case k_is_name => k_is)
    (case a_is_variable => k_is)
    (case l_is_variable => k_is)
    (case e_is_variable => k_is)
    (case k_is_variable => k_is)
    (case a_is_head => k_is)
    (case l_is_head => k_is)
    (case e_is_head => k_is)
    (case k_is_head => k_is)
    (case a_is_rest => k_is)
    (case l_is_rest => k_is)
    (case e_is_rest => k_is)
    (case k_is_rest => k_is)
    (case a_is_applied => k_is)
    (case l_is_applied => k_is)
    (case e_is_applied => k_is)
    (case k_is_applied => k_is)
    (case a_standings => k_is)
    (case l_standings => k_is)
    (case e_standings => k_is)
    (case k_standings => k_is)
    (case a_have_one_sort => k_is)
    (case l_have_one_sort => k_is)
    (case e_have_one_sort => k_is)
    (case k_have_one_sort => k_is)
    (case a_pieces => k_is)
    (case l_pieces => k_is)
    (case e_pieces => k_is)
    (case k_pieces => k_is)
    (case a_numbers_of => k_is)
    (case l_numbers_of => k_is)
    (case e_numbers_of => k_is)
    (case k_numbers_of => k_is)
    (case a_names_of => k_is)
    (case l_names_of => k_is)
    (case e_names_of => k_is)
    (case k_names_of => k_is)
    (case a_is_term => k_is)
    (case l_is_term => k_is)
    (case e_is_term => k_is)
    (case k_is_term => k_is)
    (case a_is_kind => k_is)
    (case l_is_kind => k_is)
    (case e_is_kind => k_is)
    (case k_is_kind => k_is)
    (case a_is_pattern => k_is)
    (case l_is_pattern => k_is)
    (case e_is_pattern => k_is)
    (case k_is_pattern => k_is)
    (case a__law_pot => k_is)
    (case l__law_pot => k_is)
    (case e__law_pot => k_is)
    (case k__law_pot => k_is)
    (case a__law_draw => k_is)
    (case l__law_draw => k_is)
    (case e__law_draw => k_is)
    (case k__law_draw => k_is)
    (case a__law_pick => k_is)
    (case l__law_pick => k_is)
    (case e__law_pick => k_is)
    (case k__law_pick => k_is)
    (case a__law_are_in => k_is)
    (case l__law_are_in => k_is)
    (case e__law_are_in => k_is)
    (case k__law_are_in => k_is)
    (case a__law_is_name => k_is)
    (case l__law_is_name => k_is)
    (case e__law_is_name => k_is)
    (case k__law_is_name => k_is)
    (case a__law_is_variable => k_is)
    (case l__law_is_variable => k_is)
    (case e__law_is_variable => k_is)
    (case k__law_is_variable => k_is)
    (case a__law_is_number => k_is)
    (case l__law_is_number => k_is)
    (case e__law_is_number => k_is)
    (case k__law_is_number => k_is)
    (case a__law_things => k_is)
    (case l__law_things => k_is)
    (case e__law_things => k_is)
    (case k__law_things => k_is)
    (case a__law_is_term => k_is)
    (case l__law_is_term => k_is)
    (case e__law_is_term => k_is)
    (case k__law_is_term => k_is)
    (case a__law_due => k_is)
    (case l__law_due => k_is)
    (case e__law_due => k_is)
    (case k__law_due => k_is)
    (case a__law_leaf => k_is)
    (case l__law_leaf => k_is)
    (case e__law_leaf => k_is)
    (case k__law_leaf => k_is)
    (case a__law_value => k_is)
    (case l__law_value => k_is)
    (case e__law_value => k_is)
    (case k__law_value => k_is)
    (case a__law_chain => k_is)
    (case l__law_chain => k_is)
    (case e__law_chain => k_is)
    (case k__law_chain => k_is)
    (case a_law => k_is)
    (case l_law => k_is)
    (case e_law => k_is)
    (case k_law => k_is)
    (case z_abs => k_is)
    (case z_all => k_is)
    (case z_any => k_is)
    (case z_bool => k_is)
    (case z_divmod => k_is)
    (case z_enumerate => k_is)
    (case z_int => k_is)
    (case z_isinstance => k_is)
    (case z_len => k_is)
    (case z_max => k_is)
    (case z_range => k_is)
    (case z_repr => k_is)
    (case z_set => k_is)
    (case z_sorted => k_is)
    (case z_str => k_is)
    (case z_tuple => k_is)
    (case c_DIGITS => k_is)
    (case c_FRESH_NAME => k_is)
    (case c_GREAT => k_is)
    (case c_HEAD => k_is)
    (case c_MOST_DIGITS => k_is)
    (case c_MOST_NUMBER => k_is)
    (case c_MOST_SIGNS => k_is)
    (case c_REST => k_is)
    (case c_SMALL => k_is)
    (case c_TERM => k_is)
