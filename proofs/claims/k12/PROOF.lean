import PyProof.Rows.All
import Wide.All
import OpenK.AllK
import Wide.FinOn
import HandS.ForMost
import HandS.Exc
import HandS.TryOnly
import HandS.TupAny
import HandS.TupMul
import HandS.Style
import HandS.Deep
import HandS.IsInst
import HandS.Flow
import HandS.SetKeys
import HandS.SortInts
import HandS.Iter
import HandS.More
import HandS.Small
import HandS.Ends
import HandS.Comp
import KE.GoesEnum
import PyProof.ReprRoads
import HandS.SortOrd
import HandS.SortRule
import HandS.TupSets
import KE.KSortTupAny
import PyProof.Rows.FactsT3
import PySem.Challenge.RW_nearestpattern_k12_whole_parts_of_terms
set_option Elab.async false
set_option linter.all false
set_option maxRecDepth 100000
set_option autoImplicit false
/-! A small interpreter over trees, and what it has to do with the abstract heap. -/
namespace VM
open PySem L2

/-! ### 1. values, cells, outcomes -/
/-- a value as a tree; a list or dict in it stands still for ever -/
inductive D where
  | non | bl (b : Bool) | int (i : Int) | str (x : Str)
  | tup (ds : List D) | lst (ds : List D) | dic (ks : List Key) (ds : List D)
  /-- the script -/
  | scr (ns : List Int)
  deriving Inhabited
/-- what a cell holds -/
inductive CV where
  | lst (ds : List D) | dic (ks : List Key) (ds : List D)
  deriving Inhabited
structure Cell where
  live : Bool
  val : CV
  deriving Inhabited
abbrev Sto := List Cell
/-- what a slot holds -/
inductive SV where
  | dat (d : D) | cel (k : Nat)
  deriving Inhabited
abbrev Env := List (Option SV)
/-- what an expression gives: data, a cell, or a new object that nobody else holds -/
inductive EV where
  | dat (d : D) | cel (k : Nat) | new (c : CV)
  deriving Inhabited
structure Exc where
  cls : Nat
  fs : List (Str × D)
  deriving Inhabited
inductive Res (α : Type) where
  | ok (a : α) (μ : Sto) | exc (x : Exc) (μ : Sto) | bad
  deriving Inhabited
abbrev Fns := Nat → List SV → Sto → Res EV
abbrev SE := Fns → Env → Sto → Res EV
/-- a test -/
abbrev SB := Fns → Env → Sto → Res Bool
inductive SO where
  | nx (ρ : Env) | rt (v : EV) | bk (ρ : Env) | ct (ρ : Env)
  deriving Inhabited
abbrev SS := Fns → Env → Sto → Res SO

def Res.bind {α β : Type} (r : Res α) (f : α → Sto → Res β) : Res β := match r with
  | .ok a μ => f a μ
  | .exc x μ => .exc x μ
  | .bad => .bad

def CV.toD : CV → D
  | .lst ds => .lst ds
  | .dic ks ds => .dic ks ds
/-- what is seen of a value -/
def EV.see (v : EV) (μ : Sto) : Option D := match v with
  | .dat d => some d
  | .new c => some c.toD
  | .cel k => match μ[k]? with
    | some c => some c.val.toD
    | none => none
/-- made still, for ever -/
def EV.frz (v : EV) (μ : Sto) : Option (D × Sto) := match v with
  | .dat d => some (d, μ)
  | .new c => some (c.toD, μ)
  | .cel k => match μ[k]? with
    | some c => some (c.val.toD, μ.set k ⟨false, c.val⟩)
    | none => none
def frzs : List EV → Sto → Option (List D × Sto)
  | [], μ => some ([], μ)
  | v :: vs, μ => match v.frz μ with
    | some (d, μ1) => match frzs vs μ1 with
      | some (ds, μ2) => some (d :: ds, μ2)
      | none => none
    | none => none
def SV.ev : SV → EV
  | .dat d => .dat d
  | .cel k => .cel k

/-! ### 2. what stands for what -/
section
variable (K : PySem.W.Frag) (L : Addr → Prop) (H : Hp)
def WrT (a : Addr) (vs : List V) : Prop := ∃ (o : Obj) (its : Array Value) (n : Nat), K.lookup a = some o ∧ o.cls = .type "tuple" ∧ o.data = .seq its n ∧ its.size ≤ sizeLine ∧ Vals vs its.toList
def WrL (a : Addr) (vs : List V) : Prop := ∃ (o : Obj) (its : Array Value) (n : Nat), K.lookup a = some o ∧ o.cls = .type "list" ∧ o.dict = none ∧ o.data = .seq its n ∧ its.size ≤ sizeLine ∧ Vals vs its.toList
def TupN (a : Addr) (vs : List V) : Prop := (Rd H a (.tup vs) ∧ ¬ L a) ∨ WrT K a vs
def LstN (a : Addr) (vs : List V) : Prop := (Rd H a (.lst vs) ∧ ¬ L a) ∨ WrL K a vs
mutual
def Rep : D → V → Prop
  | .non, v => v = .non
  | .bl b, v => v = .bl b
  | .int i, v => v = .int i
  | .str x, v => v = .str x
  | .tup ds, v => ∃ a vs, v = .ref a ∧ TupN K L H a vs ∧ Reps ds vs
  | .lst ds, v => ∃ a vs, v = .ref a ∧ H a = some (.lst vs) ∧ ¬ L a ∧ Reps ds vs
  | .dic ks ds, v => ∃ a vs, v = .ref a ∧ H a = some (.dK (ks.zip vs)) ∧ ¬ L a ∧ ks.length = ds.length ∧ Reps ds vs
  | .scr ns, v => ∃ a, v = .ref a ∧ LstN K L H a (ns.map V.int)
def Reps : List D → List V → Prop
  | [], vs => vs = []
  | d :: ds, vs => ∃ v r, vs = v :: r ∧ Rep d v ∧ Reps ds r
end
end
section
variable {K : PySem.W.Frag} {L L' : Addr → Prop} {H H' : Hp}
theorem TupN.sq {a : Addr} {vs : List V} (h : TupN K L H a vs) : SqT K H a vs := by
  rcases h with h | h
  · exact .inl h.1
  · exact .inr h
theorem LstN.sq {a : Addr} {vs : List V} (h : LstN K L H a vs) : SqL K H a vs := by
  rcases h with h | h
  · exact .inl h.1
  · exact .inr h
/-- what does not live stays -/
def Mv (L : Addr → Prop) (H : Hp) (L' : Addr → Prop) (H' : Hp) : Prop := ∀ a o, H a = some o → ¬ L a → H' a = some o ∧ ¬ L' a
theorem rd_mv {a : Addr} {u : HO} (m : Mv L H L' H') (h : Rd H a u) (n : ¬ L a) : Rd H' a u ∧ ¬ L' a := by
  rcases h with h | ⟨o, h⟩
  · exact ⟨.inl (m a _ h n).1, (m a _ h n).2⟩
  · exact ⟨.inr ⟨o, (m a _ h n).1⟩, (m a _ h n).2⟩
theorem TupN.mv {a : Addr} {vs : List V} (m : Mv L H L' H') (h : TupN K L H a vs) : TupN K L' H' a vs := by
  rcases h with ⟨h, n⟩ | h
  · exact .inl (rd_mv m h n)
  · exact .inr h
theorem LstN.mv {a : Addr} {vs : List V} (m : Mv L H L' H') (h : LstN K L H a vs) : LstN K L' H' a vs := by
  rcases h with ⟨h, n⟩ | h
  · exact .inl (rd_mv m h n)
  · exact .inr h
mutual
theorem Rep.mv (m : Mv L H L' H') : ∀ (d : D) (v : V), Rep K L H d v → Rep K L' H' d v
  | .non, v, h => by simpa only [Rep] using h
  | .bl _, v, h => by simpa only [Rep] using h
  | .int _, v, h => by simpa only [Rep] using h
  | .str _, v, h => by simpa only [Rep] using h
  | .tup ds, v, h => by
    simp only [Rep] at h ⊢
    obtain ⟨a, vs, e, t, r⟩ := h
    exact ⟨a, vs, e, t.mv m, Reps.mv m ds vs r⟩
  | .lst ds, v, h => by
    simp only [Rep] at h ⊢
    obtain ⟨a, vs, e, t, n, r⟩ := h
    exact ⟨a, vs, e, (m a _ t n).1, (m a _ t n).2, Reps.mv m ds vs r⟩
  | .scr ns, v, h => by
    simp only [Rep] at h ⊢
    obtain ⟨a, e, t⟩ := h
    exact ⟨a, e, t.mv m⟩
  | .dic ks ds, v, h => by
    simp only [Rep] at h ⊢
    obtain ⟨a, vs, e, t, n, l, r⟩ := h
    exact ⟨a, vs, e, (m a _ t n).1, (m a _ t n).2, l, Reps.mv m ds vs r⟩
theorem Reps.mv (m : Mv L H L' H') : ∀ (ds : List D) (vs : List V), Reps K L H ds vs → Reps K L' H' ds vs
  | [], vs, h => by simpa only [Reps] using h
  | d :: ds, vs, h => by
    simp only [Reps] at h ⊢
    obtain ⟨v, r, e, h1, h2⟩ := h
    exact ⟨v, r, e, Rep.mv m d v h1, Reps.mv m ds r h2⟩
end
theorem Reps.len : ∀ {ds : List D} {vs : List V}, Reps K L H ds vs → vs.length = ds.length
  | [], vs, h => by
    have h : vs = [] := by simpa only [Reps] using h
    rw [h] <;> rfl
  | d :: ds, vs, h => by
    simp only [Reps] at h
    obtain ⟨v, r, e, h1, h2⟩ := h
    rw [e, List.length_cons, List.length_cons, Reps.len h2]
theorem Reps.nil : Reps K L H [] [] := by simp only [Reps]
theorem Reps.cons {d : D} {v : V} {ds : List D} {vs : List V} (h : Rep K L H d v) (t : Reps K L H ds vs) : Reps K L H (d :: ds) (v :: vs) := by
  simp only [Reps]
  exact ⟨v, vs, rfl, h, t⟩
theorem Reps.inv {d : D} {ds : List D} {vs : List V} (h : Reps K L H (d :: ds) vs) : ∃ v r, vs = v :: r ∧ Rep K L H d v ∧ Reps K L H ds r := by
  simpa only [Reps] using h
theorem Reps.invN {vs : List V} (h : Reps K L H [] vs) : vs = [] := by simpa only [Reps] using h
theorem Reps.app : ∀ {ds es : List D} {vs ws : List V}, Reps K L H ds vs → Reps K L H es ws → Reps K L H (ds ++ es) (vs ++ ws)
  | [], es, vs, ws, h, g => by
    rw [h.invN]; exact g
  | d :: ds, es, vs, ws, h, g => by
    obtain ⟨v, r, e, h1, h2⟩ := h.inv
    subst e
    exact Reps.cons h1 (Reps.app h2 g)
theorem Reps.get : ∀ {ds : List D} {vs : List V} {i : Nat} {d : D}, Reps K L H ds vs → ds[i]? = some d → ∃ v, vs[i]? = some v ∧ Rep K L H d v
  | [], vs, i, d, h, e => by simp at e
  | x :: ds, vs, 0, d, h, e => by
    obtain ⟨v, r, e1, h1, h2⟩ := h.inv
    subst e1
    simp at e; subst e
    exact ⟨v, rfl, h1⟩
  | x :: ds, vs, i + 1, d, h, e => by
    obtain ⟨v, r, e1, h1, h2⟩ := h.inv
    subst e1
    obtain ⟨w, q1, q2⟩ := Reps.get (i := i) h2 (by simpa using e)
    exact ⟨w, by simpa using q1, q2⟩
theorem Reps.get' : ∀ {ds : List D} {vs : List V} {i : Nat} {v : V}, Reps K L H ds vs → vs[i]? = some v → ∃ d, ds[i]? = some d ∧ Rep K L H d v
  | [], vs, i, d, h, e => by rw [h.invN] at e; simp at e
  | x :: ds, vs, 0, d, h, e => by
    obtain ⟨v, r, e1, h1, h2⟩ := h.inv
    subst e1
    simp at e; subst e
    exact ⟨x, rfl, h1⟩
  | x :: ds, vs, i + 1, d, h, e => by
    obtain ⟨v, r, e1, h1, h2⟩ := h.inv
    subst e1
    obtain ⟨w, q1, q2⟩ := Reps.get' (i := i) h2 (by simpa using e)
    exact ⟨w, by simpa using q1, q2⟩
theorem Reps.set : ∀ {ds : List D} {vs : List V} {d : D} {v : V} (i : Nat), Reps K L H ds vs → Rep K L H d v → Reps K L H (ds.set i d) (vs.set i v)
  | [], vs, d, v, i, h, g => by rw [h.invN]; exact Reps.nil
  | x :: ds, vs, d, v, 0, h, g => by
    obtain ⟨w, r, e1, h1, h2⟩ := h.inv
    subst e1
    exact Reps.cons g h2
  | x :: ds, vs, d, v, i + 1, h, g => by
    obtain ⟨w, r, e1, h1, h2⟩ := h.inv
    subst e1
    exact Reps.cons h1 (Reps.set i h2 g)
theorem Reps.take : ∀ {ds : List D} {vs : List V} (n : Nat), Reps K L H ds vs → Reps K L H (ds.take n) (vs.take n)
  | ds, vs, 0, h => by rw [List.take_zero, List.take_zero]; exact Reps.nil
  | [], vs, n + 1, h => by rw [h.invN]; exact Reps.nil
  | x :: ds, vs, n + 1, h => by
    obtain ⟨w, r, e1, h1, h2⟩ := h.inv
    subst e1
    exact Reps.cons h1 (Reps.take n h2)
theorem Reps.drop : ∀ {ds : List D} {vs : List V} (n : Nat), Reps K L H ds vs → Reps K L H (ds.drop n) (vs.drop n)
  | ds, vs, 0, h => h
  | [], vs, n + 1, h => by rw [h.invN]; exact Reps.nil
  | x :: ds, vs, n + 1, h => by
    obtain ⟨w, r, e1, h1, h2⟩ := h.inv
    subst e1
    exact Reps.drop n h2
theorem Reps.rev : ∀ {ds : List D} {vs : List V}, Reps K L H ds vs → Reps K L H ds.reverse vs.reverse
  | [], vs, h => by rw [h.invN]; exact Reps.nil
  | x :: ds, vs, h => by
    obtain ⟨w, r, e1, h1, h2⟩ := h.inv
    subst e1
    rw [List.reverse_cons, List.reverse_cons]
    exact Reps.app (Reps.rev h2) (Reps.cons h1 Reps.nil)
end

/-! ### 3. the store and the heap -/
/-- the live cells' addresses -/
def Cel (μ : Sto) (ι : List Addr) (a : Addr) : Prop := ∃ (k : Nat) (c : Cell), μ[k]? = some c ∧ c.live = true ∧ ι[k]? = some a
def Liv (Acc : Addr → Prop) (μ : Sto) (ι : List Addr) (a : Addr) : Prop := Cel μ ι a ∨ Acc a
def CvR (K : PySem.W.Frag) (L : Addr → Prop) (H : Hp) (c : CV) (a : Addr) : Prop := match c with
  | .lst ds => ∃ vs, H a = some (.lst vs) ∧ Reps K L H ds vs
  | .dic ks ds => ∃ vs, H a = some (.dK (ks.zip vs)) ∧ ks.length = ds.length ∧ Reps K L H ds vs
structure Sim (K : PySem.W.Frag) (Acc : Addr → Prop) (μ : Sto) (ι : List Addr) (H : Hp) : Prop where
  len : ι.length = μ.length
  nd : ι.Nodup
  acc : ∀ a, Acc a → a ∉ ι ∧ H a ≠ none
  cell : ∀ (k : Nat) (c : Cell), μ[k]? = some c → ∃ a, ι[k]? = some a ∧ CvR K (Liv Acc μ ι) H c.val a
/-- how a run goes on: from (ι, μ, H) to (ι', μ', H') -/
structure Stp (K : PySem.W.Frag) (Acc : Addr → Prop) (ι : List Addr) (μ : Sto) (H : Hp) (ι' : List Addr) (μ' : Sto) (H' : Hp) : Prop where
  sim : Sim K Acc μ' ι' H'
  pre : ∃ ex, ι' = ι ++ ex ∧ ∀ a ∈ ex, H a = none
  keep : ∀ a o, H a = some o → ¬ Cel μ ι a → H' a = some o
  trk : ∀ a, H a ≠ none → H' a ≠ none
  liv : ∀ a, Cel μ' ι' a → Cel μ ι a ∨ H a = none
def SvR (K : PySem.W.Frag) (L : Addr → Prop) (ι : List Addr) (H : Hp) (s : SV) (v : V) : Prop := match s with
  | .dat d => Rep K L H d v
  | .cel k => ∃ a, ι[k]? = some a ∧ v = .ref a
def EnvR (K : PySem.W.Frag) (L : Addr → Prop) (ι : List Addr) (H : Hp) (ρ : Env) (σ : L2.St) : Prop :=
  ρ.length = σ.length ∧ ∀ (i : Nat) s, ρ[i]? = some (some s) → ∃ v, σ[i]? = some (some v) ∧ SvR K L ι H s v
/-- H0: the heap ahead -/
def EvR (K : PySem.W.Frag) (L : Addr → Prop) (ι : List Addr) (H0 H : Hp) (e : EV) (v : V) : Prop := match e with
  | .dat d => Rep K L H d v
  | .cel k => ∃ a, ι[k]? = some a ∧ v = .ref a
  | .new c => ∃ p, v = .ref p ∧ H0 p = none ∧ CvR K L H c p
/-- a new object: nothing still leads to it -/
def OwnR (K : PySem.W.Frag) (Acc : Addr → Prop) (μ : Sto) (ι : List Addr) (H : Hp) (e : EV) (v : V) : Prop := match e with
  | .new c => ∀ p, v = .ref p → Sim K (fun a => Acc a ∨ a = p) μ ι H ∧ CvR K (Liv (fun a => Acc a ∨ a = p) μ ι) H c p
  | _ => True
def EvsR (K : PySem.W.Frag) (L : Addr → Prop) (ι : List Addr) (H0 H : Hp) : List EV → List V → Prop
  | [], vs => vs = []
  | e :: es, vs => ∃ v r, vs = v :: r ∧ EvR K L ι H0 H e v ∧ EvsR K L ι H0 H es r
/-- an exception: its class's address, its own dict's, what lies there -/
structure XI where
  cls : Nat → Addr
def ExcR (K : PySem.W.Frag) (XC : Nat → Addr) (L : Addr → Prop) (H0 H : Hp) (x : Exc) (c : Value) (da : Option Addr) : Prop :=
  c = .ref (XC x.cls) ∧ match da with
    | none => x.fs = []
    | some d => H0 d = none ∧ ∃ vs, H d = some (.xd ((x.fs.map (·.1)).zip vs)) ∧ Reps K L H (x.fs.map (·.2)) vs

section
variable {K : PySem.W.Frag} {Acc : Addr → Prop} {ι ι1 ι2 ι' : List Addr} {μ μ1 μ2 μ' : Sto} {H H0 H1 H2 H' : Hp}
theorem Cel.mem {a : Addr} (h : Cel μ ι a) : a ∈ ι := by
  obtain ⟨k, c, _, _, e⟩ := h
  exact List.mem_of_getElem? e
theorem CvR.trk {L : Addr → Prop} {c : CV} {a : Addr} (h : CvR K L H c a) : H a ≠ none := by
  cases c with
  | lst ds => obtain ⟨vs, e, _⟩ := h; rw [e]; simp
  | dic ks ds => obtain ⟨vs, e, _⟩ := h; rw [e]; simp
theorem Sim.trk (S : Sim K Acc μ ι H) {a : Addr} (h : a ∈ ι) : H a ≠ none := by
  obtain ⟨k, hk⟩ := List.getElem?_of_mem h
  have hl : k < μ.length := by rw [← S.len]; exact (List.getElem?_eq_some_iff.mp hk).1
  obtain ⟨b, e, r⟩ := S.cell k _ (List.getElem?_eq_getElem hl)
  rw [hk] at e; cases e
  exact r.trk
theorem Sim.live_ne (S : Sim K Acc μ ι H) {a p : Addr} (h : Liv Acc μ ι a) (n : H p = none) : a ≠ p := by
  rintro rfl
  rcases h with h | h
  · exact S.trk h.mem n
  · exact (S.acc a h).2 n
theorem Stp.mv (t : Stp K Acc ι μ H ι' μ' H') (S : Sim K Acc μ ι H) : Mv (Liv Acc μ ι) H (Liv Acc μ' ι') H' := fun a o h n => by
  refine ⟨t.keep a o h fun z => n (.inl z), fun z => ?_⟩
  rcases z with z | z
  · rcases t.liv a z with z | z
    · exact n (.inl z)
    · rw [h] at z; cases z
  · exact n (.inr z)
theorem Stp.refl (S : Sim K Acc μ ι H) : Stp K Acc ι μ H ι μ H := ⟨S, ⟨[], by simp, by simp⟩, fun _ _ h _ => h, fun _ h => h, fun _ h => .inl h⟩
theorem Stp.back (t : Stp K Acc ι μ H ι' μ' H') {p : Addr} (h : H' p = none) : H p = none := by
  cases e : H p with
  | none => rfl
  | some o => exact absurd h (t.trk p (by rw [e]; simp))
theorem Stp.trans (a : Stp K Acc ι μ H ι1 μ1 H1) (b : Stp K Acc ι1 μ1 H1 ι2 μ2 H2) : Stp K Acc ι μ H ι2 μ2 H2 := by
  refine ⟨b.sim, ?_, fun x o h n => ?_, fun x h => b.trk x (a.trk x h), fun x h => ?_⟩
  · obtain ⟨e1, h1, n1⟩ := a.pre
    obtain ⟨e2, h2, n2⟩ := b.pre
    refine ⟨e1 ++ e2, by rw [h2, h1, List.append_assoc], fun x hx => ?_⟩
    rcases List.mem_append.mp hx with hx | hx
    · exact n1 x hx
    · exact a.back (n2 x hx)
  · refine b.keep x o (a.keep x o h n) fun z => ?_
    rcases a.liv x z with z | z
    · exact n z
    · rw [h] at z; cases z
  · rcases b.liv x h with z | z
    · exact a.liv x z
    · exact .inr (a.back z)
theorem Stp.get (t : Stp K Acc ι μ H ι' μ' H') {k : Nat} {a : Addr} (h : ι[k]? = some a) : ι'[k]? = some a := by
  obtain ⟨ex, e, _⟩ := t.pre
  rw [e, List.getElem?_append_left (List.getElem?_eq_some_iff.mp h).1]
  exact h
theorem CvR.mv {L L' : Addr → Prop} {c : CV} {a : Addr} (m : Mv L H L' H') (h : CvR K L H c a) (ha : ∀ o, H a = some o → H' a = some o) : CvR K L' H' c a := by
  cases c with
  | lst ds => obtain ⟨vs, e, r⟩ := h; exact ⟨vs, ha _ e, Reps.mv m _ _ r⟩
  | dic ks ds => obtain ⟨vs, e, l, r⟩ := h; exact ⟨vs, ha _ e, l, Reps.mv m _ _ r⟩
theorem SvR.mv {s : SV} {v : V} (t : Stp K Acc ι μ H ι' μ' H') (S : Sim K Acc μ ι H) (h : SvR K (Liv Acc μ ι) ι H s v) : SvR K (Liv Acc μ' ι') ι' H' s v := by
  cases s with
  | dat d => exact Rep.mv (t.mv S) _ _ h
  | cel k => obtain ⟨a, e, r⟩ := h; exact ⟨a, t.get e, r⟩
theorem EnvR.mv {ρ : Env} {σ : L2.St} (t : Stp K Acc ι μ H ι' μ' H') (S : Sim K Acc μ ι H) (h : EnvR K (Liv Acc μ ι) ι H ρ σ) : EnvR K (Liv Acc μ' ι') ι' H' ρ σ :=
  ⟨h.1, fun i s e => let ⟨v, e1, r⟩ := h.2 i s e; ⟨v, e1, r.mv t S⟩⟩
/-- a value found by a step, carried over the next one -/
theorem EvR.mv {e : EV} {v : V} (a : Stp K Acc ι μ H ι1 μ1 H1) (S : Sim K Acc μ ι H) (b : Stp K Acc ι1 μ1 H1 ι2 μ2 H2) (h : EvR K (Liv Acc μ1 ι1) ι1 H H1 e v) (hi : ι1 = ι) : EvR K (Liv Acc μ2 ι2) ι2 H H2 e v := by
  subst hi
  cases e with
  | dat d => exact Rep.mv (b.mv a.sim) _ _ h
  | cel k => obtain ⟨x, e, r⟩ := h; exact ⟨x, b.get e, r⟩
  | new c =>
    obtain ⟨p, e, n, r⟩ := h
    refine ⟨p, e, n, r.mv (b.mv a.sim) fun o ho => b.keep p o ho fun z => ?_⟩
    exact S.trk z.mem n
theorem EvR.back {e : EV} {v : V} {L : Addr → Prop} (a : Stp K Acc ι μ H ι1 μ1 H1) (h : EvR K L ι2 H1 H2 e v) : EvR K L ι2 H H2 e v := by
  cases e with
  | dat d => exact h
  | cel k => exact h
  | new c => obtain ⟨p, e, n, r⟩ := h; exact ⟨p, e, a.back n, r⟩
end
end VM
/-! The readings by the interpreter, and the rules of plain expressions. -/
namespace VM
open PySem L2

/-! ### 1. readings -/
/-- what a run's outcome r asks of what follows; base: (ι, μ, H) ahead -/
def wp {α β : Type} (Rel : (Addr → Prop) → Sto → List Addr → Hp → Hp → α → β → Prop) (K : PySem.W.Frag) (XC : Nat → Addr) (W : WX) (Acc : Addr → Prop) (ι : List Addr) (μ : Sto) (H : Hp) (σ : L2.St) (r : Res α) (Q : β → Hp → Prop) : Prop := match r with
  | .ok a μ' => ∀ b H', Stp K Acc ι μ H ι μ' H' → Rel Acc μ' ι H H' a b → Q b H'
  | .exc x μ' => ∀ c d H', Stp K Acc ι μ H ι μ' H' → ExcR K XC (Liv Acc μ' ι) H H' x c d → W c d σ H'
  | .bad => False
/-- the relations used -/
abbrev relE (K : PySem.W.Frag) : (Addr → Prop) → Sto → List Addr → Hp → Hp → EV → V → Prop := fun Acc μ ι H H' e v => EvR K (Liv Acc μ ι) ι H H' e v ∧ OwnR K Acc μ ι H' e v
abbrev relB : (Addr → Prop) → Sto → List Addr → Hp → Hp → Bool → Bool → Prop := fun _ _ _ _ _ a b => b = a
abbrev relA (K : PySem.W.Frag) : (Addr → Prop) → Sto → List Addr → Hp → Hp → List EV → List V → Prop := fun Acc μ ι H H' e v => EvsR K (Liv Acc μ ι) ι H H' e v
/-- parts of a slice -/
abbrev relO : (Addr → Prop) → Sto → List Addr → Hp → Hp → Option Int → Option Int → Prop := fun _ _ _ _ _ a b => b = a
abbrev SA := Fns → Env → Sto → Res (List EV)
abbrev SOp := Fns → Env → Sto → Res (Option Int)

section
variable (K : PySem.W.Frag) (XC : Nat → Addr) (F : Fns) (W : WX)
def rd {α β : Type} (Rel : (Addr → Prop) → Sto → List Addr → Hp → Hp → α → β → Prop) (f : Fns → Env → Sto → Res α) (σ : L2.St) (H : Hp) (Q : β → Hp → Prop) : Prop :=
  ∃ (Acc : Addr → Prop) (ι : List Addr) (ρ : Env) (μ : Sto), Sim K Acc μ ι H ∧ EnvR K (Liv Acc μ ι) ι H ρ σ ∧ wp Rel K XC W Acc ι μ H σ (f F ρ μ) Q
abbrev rdE (f : SE) : TE := fun σ H Q => rd K XC F W (relE K) f σ H Q
abbrev rdB (f : SB) : TT := fun σ H Q => rd K XC F W relB f σ H Q
abbrev rdA (f : SA) : TA := fun σ H Q => rd K XC F W (relA K) f σ H Q
abbrev rdO (f : SOp) : TO := fun σ H Q => rd K XC F W relO f σ H Q
end

section
variable {K : PySem.W.Frag} {XC : Nat → Addr} {F : Fns} {W : WX} {Acc : Addr → Prop} {ι ι1 ι2 : List Addr} {μ μ1 μ2 : Sto} {H H0 H1 H2 : Hp} {σ : L2.St}
theorem EvsR.back {L : Addr → Prop} {ι' : List Addr} {μ' : Sto} : ∀ {es : List EV} {vs : List V}, Stp K Acc ι μ H ι' μ' H1 → EvsR K L ι2 H1 H2 es vs → EvsR K L ι2 H H2 es vs
  | [], vs, a, h => h
  | e :: es, vs, a, h => by
    obtain ⟨v, r, e1, h1, h2⟩ := h
    exact ⟨v, r, e1, EvR.back a h1, EvsR.back a h2⟩
theorem EvsR.mv : ∀ {es : List EV} {vs : List V}, Stp K Acc ι μ H ι μ1 H1 → Sim K Acc μ ι H → Stp K Acc ι μ1 H1 ι μ2 H2 → EvsR K (Liv Acc μ1 ι) ι H H1 es vs → EvsR K (Liv Acc μ2 ι) ι H H2 es vs
  | [], vs, a, S, b, h => h
  | e :: es, vs, a, S, b, h => by
    obtain ⟨v, r, e1, h1, h2⟩ := h
    exact ⟨v, r, e1, EvR.mv a S b h1 rfl, EvsR.mv a S b h2⟩
/-- what carries back a relation to an earlier base -/
class Back {α β : Type} (Rel : (Addr → Prop) → Sto → List Addr → Hp → Hp → α → β → Prop) (K : PySem.W.Frag) : Prop where
  back : ∀ {Acc : Addr → Prop} {ι ι' ι2 : List Addr} {μ μ' : Sto} {H H1 H2 : Hp} {Acc2 : Addr → Prop} {μ2 : Sto} {a : α} {b : β}, Stp K Acc ι μ H ι' μ' H1 → Rel Acc2 μ2 ι2 H1 H2 a b → Rel Acc2 μ2 ι2 H H2 a b
instance : Back (relE K) K := ⟨fun s h => ⟨EvR.back s h.1, h.2⟩⟩
instance : Back (relA K) K := ⟨fun s h => EvsR.back s h⟩
instance : Back relB K := ⟨fun _ h => h⟩
instance : Back relO K := ⟨fun _ h => h⟩
theorem ExcR.back {L : Addr → Prop} {ι' : List Addr} {μ' : Sto} {x : Exc} {c : Value} {d : Option Addr} (a : Stp K Acc ι μ H ι' μ' H1) (h : ExcR K XC L H1 H2 x c d) : ExcR K XC L H H2 x c d := by
  refine ⟨h.1, ?_⟩
  have h2 := h.2
  cases d with
  | none => exact h2
  | some d => exact ⟨a.back h2.1, h2.2⟩
/-- a run's wish, asked from a later base -/
theorem wp.shift {α β : Type} {Rel : (Addr → Prop) → Sto → List Addr → Hp → Hp → α → β → Prop} [Back Rel K] {r : Res α} {Q : β → Hp → Prop} (t : Stp K Acc ι μ H ι μ1 H1) (h : wp Rel K XC W Acc ι μ H σ r Q) : wp Rel K XC W Acc ι μ1 H1 σ r Q := by
  cases r with
  | ok a μ' => exact fun b H' t' rl => h b H' (t.trans t') (Back.back t rl)
  | exc x μ' => exact fun c d H' t' rl => h c d H' (t.trans t') (rl.back t)
  | bad => exact h
theorem wp.imp {α β : Type} {Rel : (Addr → Prop) → Sto → List Addr → Hp → Hp → α → β → Prop} {r : Res α} {Q Q' : β → Hp → Prop} (h : wp Rel K XC W Acc ι μ H σ r Q) (q : ∀ b H', Q b H' → Q' b H') : wp Rel K XC W Acc ι μ H σ r Q' := by
  cases r with
  | ok a μ' => exact fun b H' t' rl => q _ _ (h b H' t' rl)
  | exc x μ' => exact h
  | bad => exact h
/-- one run, then another: the first reading; the wish is told from an earlier base -/
theorem rd.bind {α β γ δ : Type} {Rel : (Addr → Prop) → Sto → List Addr → Hp → Hp → α → β → Prop} {Rel2 : (Addr → Prop) → Sto → List Addr → Hp → Hp → γ → δ → Prop} {f : Fns → Env → Sto → Res α} {ρ : Env} {g : α → Sto → Res γ} {Q : δ → Hp → Prop} {P : β → Hp → Prop}
    (t : Stp K Acc ι μ1 H1 ι μ H) (E : EnvR K (Liv Acc μ ι) ι H ρ σ) (h : wp Rel2 K XC W Acc ι μ1 H1 σ ((f F ρ μ).bind g) Q)
    (k : ∀ a μ' b H', f F ρ μ = .ok a μ' → Stp K Acc ι μ H ι μ' H' → Rel Acc μ' ι H H' a b → wp Rel2 K XC W Acc ι μ1 H1 σ (g a μ') Q → P b H') : rd K XC F W Rel f σ H P := by
  refine ⟨Acc, ι, ρ, μ, t.sim, E, ?_⟩
  cases e : f F ρ μ with
  | ok a μ' => rw [e] at h; exact fun b H' t' rl => k a μ' b H' e t' rl h
  | exc x μ' => rw [e] at h; exact fun c d H' t' rl => h c d H' (t.trans t') (rl.back t)
  | bad => rw [e] at h; exact h
/-- the last run -/
theorem rd.last {α β : Type} {Rel : (Addr → Prop) → Sto → List Addr → Hp → Hp → α → β → Prop} [Back Rel K] {f : Fns → Env → Sto → Res α} {ρ : Env} {Q : β → Hp → Prop}
    (t : Stp K Acc ι μ1 H1 ι μ H) (E : EnvR K (Liv Acc μ ι) ι H ρ σ) (h : wp Rel K XC W Acc ι μ1 H1 σ (f F ρ μ) Q) : rd K XC F W Rel f σ H Q := ⟨Acc, ι, ρ, μ, t.sim, E, wp.shift t h⟩
end

theorem PEimp {X : Cx} {e : Expr} {t t' : TE} (h : PE X e t) (i : ∀ σ H Q, t' σ H Q → t σ H Q) : PE X e t' := ⟨fun pins s σ H Q I q => h.run pins s σ H Q I (i σ H Q q)⟩
theorem PTimp {X : Cx} {e : Expr} {t t' : TT} (h : PT X e t) (i : ∀ σ H Q, t' σ H Q → t σ H Q) : PT X e t' := ⟨fun pins s σ H Q I q => h.run pins s σ H Q I (i σ H Q q)⟩
theorem PWimp {X : Cx} {e : Expr} {t t' : TT} (h : PW X e t) (i : ∀ σ H Q, t' σ H Q → t σ H Q) : PW X e t' := ⟨fun wh pins s σ H Q I q => h.run wh pins s σ H Q I (i σ H Q q)⟩
theorem PAimp {X : Cx} {e : List Expr} {t t' : TA} (h : PA X e t) (i : ∀ σ H Q, t' σ H Q → t σ H Q) : PA X e t' := ⟨fun pos pins s σ H Q I q => h.run pos pins s σ H Q I (i σ H Q q)⟩
theorem PSimp {X : Cx} {e : Stmt} {t t' : TS} (h : PS X e t) (i : ∀ D σ H, t' D σ H → t D σ H) : PS X e t' := ⟨fun pins s σ H D I q => h.run pins s σ H D I (i D σ H q)⟩
theorem PSsimp {X : Cx} {e : List Stmt} {t t' : TS} (h : PSs X e t) (i : ∀ D σ H, t' D σ H → t D σ H) : PSs X e t' := ⟨fun pins s σ H D I q => h.run pins s σ H D I (i D σ H q)⟩

/-! ### 2. new objects, views -/
section
variable {K : PySem.W.Frag} {Acc : Addr → Prop} {ι : List Addr} {μ : Sto} {H : Hp}
theorem Sim.up (S : Sim K Acc μ ι H) {p : Addr} (n : H p = none) (o : HO) : Stp K Acc ι μ H ι μ (upd H p o) := by
  have kp : ∀ a u, H a = some u → upd H p o a = some u := fun a u e => by rw [upd_ne (ne_of_none e n)]; exact e
  have m : Mv (Liv Acc μ ι) H (Liv Acc μ ι) (upd H p o) := fun a u e l => ⟨kp a u e, l⟩
  refine ⟨⟨S.len, S.nd, fun a h => ⟨(S.acc a h).1, ?_⟩, fun k c e => ?_⟩, ⟨[], by simp, by simp⟩, fun a u e _ => kp a u e, fun a h => ?_, fun a h => .inl h⟩
  · cases e : H a with
    | none => exact absurd e (S.acc a h).2
    | some u => rw [kp a u e]; simp
  · obtain ⟨a, e1, r⟩ := S.cell k c e
    exact ⟨a, e1, r.mv m fun u e => kp a u e⟩
  · cases e : H a with
    | none => exact absurd e h
    | some u => rw [kp a u e]; simp
theorem Sim.noLive (S : Sim K Acc μ ι H) {p : Addr} (n : H p = none) : ¬ Liv Acc μ ι p := fun h => S.live_ne h n rfl
/-- a new tuple -/
theorem Sim.newT (S : Sim K Acc μ ι H) {p : Addr} (n : H p = none) {ds : List D} {vs : List V} (r : Reps K (Liv Acc μ ι) H ds vs) : Rep K (Liv Acc μ ι) (upd H p (.tup vs)) (.tup ds) (.ref p) := by
  simp only [Rep]
  exact ⟨p, vs, rfl, .inl ⟨.inl upd_same, S.noLive n⟩, Reps.mv ((S.up n _).mv S) _ _ r⟩
theorem Sim.newL (S : Sim K Acc μ ι H) {p : Addr} (n : H p = none) {ds : List D} {vs : List V} (r : Reps K (Liv Acc μ ι) H ds vs) : CvR K (Liv Acc μ ι) (upd H p (.lst vs)) (.lst ds) p :=
  ⟨vs, upd_same, Reps.mv ((S.up n _).mv S) _ _ r⟩
/-- one more that must not be touched -/
theorem Sim.more (S : Sim K Acc μ ι H) {p : Addr} (n : H p = none) (o : HO) : Sim K (fun a => Acc a ∨ a = p) μ ι (upd H p o) := by
  have t := S.up n o
  have m : Mv (Liv Acc μ ι) H (Liv (fun a => Acc a ∨ a = p) μ ι) (upd H p o) := fun a u e l => by
    refine ⟨by rw [upd_ne (ne_of_none e n)]; exact e, fun z => ?_⟩
    rcases z with z | z | z
    · exact l (.inl z)
    · exact l (.inr z)
    · subst z; rw [n] at e; cases e
  refine ⟨S.len, S.nd, fun a h => ?_, fun k c e => ?_⟩
  · rcases h with h | rfl
    · exact t.sim.acc a h
    · exact ⟨fun z => S.trk z n, by rw [upd_same]; simp⟩
  · obtain ⟨a, e1, r⟩ := S.cell k c e
    exact ⟨a, e1, r.mv m fun u hu => by rw [upd_ne (ne_of_none hu n)]; exact hu⟩
theorem Sim.mvMore (S : Sim K Acc μ ι H) {p : Addr} (n : H p = none) (o : HO) : Mv (Liv Acc μ ι) H (Liv (fun a => Acc a ∨ a = p) μ ι) (upd H p o) := fun a u e l => by
  refine ⟨by rw [upd_ne (ne_of_none e n)]; exact e, fun z => ?_⟩
  rcases z with z | z | z
  · exact l (.inl z)
  · exact l (.inr z)
  · subst z; rw [n] at e; cases e
theorem Sim.ownN (S : Sim K Acc μ ι H) {p : Addr} (n : H p = none) {ds : List D} {vs : List V} (r : Reps K (Liv Acc μ ι) H ds vs) : OwnR K Acc μ ι (upd H p (.lst vs)) (.new (.lst ds)) (.ref p) := fun q e => by
  cases e
  exact ⟨S.more n _, vs, upd_same, Reps.mv (S.mvMore n _) _ _ r⟩
theorem Sim.ownD (S : Sim K Acc μ ι H) {p : Addr} (n : H p = none) {ks : List Key} {ds : List D} {vs : List V} (l : ks.length = ds.length) (r : Reps K (Liv Acc μ ι) H ds vs) : OwnR K Acc μ ι (upd H p (.dK (ks.zip vs))) (.new (.dic ks ds)) (.ref p) := fun q e => by
  cases e
  exact ⟨S.more n _, vs, upd_same, l, Reps.mv (S.mvMore n _) _ _ r⟩
/-- what a value is seen as: a value with the content of a cell too -/
def SeeR (K : PySem.W.Frag) (L : Addr → Prop) (H : Hp) (d : D) (v : V) : Prop := match d with
  | .lst ds => ∃ a vs, v = .ref a ∧ H a = some (.lst vs) ∧ Reps K L H ds vs
  | .dic ks ds => ∃ a vs, v = .ref a ∧ H a = some (.dK (ks.zip vs)) ∧ ks.length = ds.length ∧ Reps K L H ds vs
  | d => Rep K L H d v
theorem SeeR.of {L : Addr → Prop} {d : D} {v : V} (h : Rep K L H d v) : SeeR K L H d v := by
  cases d with
  | lst ds => simp only [Rep] at h; obtain ⟨a, vs, e, t, n, r⟩ := h; exact ⟨a, vs, e, t, r⟩
  | dic ks ds => simp only [Rep] at h; obtain ⟨a, vs, e, t, n, l, r⟩ := h; exact ⟨a, vs, e, t, l, r⟩
  | _ => exact h
theorem SeeR.ofC {L : Addr → Prop} {c : CV} {a : Addr} (h : CvR K L H c a) : SeeR K L H c.toD (.ref a) := by
  cases c with
  | lst ds => obtain ⟨vs, e, r⟩ := h; exact ⟨a, vs, rfl, e, r⟩
  | dic ks ds => obtain ⟨vs, e, l, r⟩ := h; exact ⟨a, vs, rfl, e, l, r⟩
theorem see_ok {H0 : Hp} {e : EV} {d : D} {v : V} (S : Sim K Acc μ ι H) (r : EvR K (Liv Acc μ ι) ι H0 H e v) (h : e.see μ = some d) : SeeR K (Liv Acc μ ι) H d v := by
  cases e with
  | dat x => cases h; exact .of r
  | new c => cases h; obtain ⟨p, e, n, r⟩ := r; subst e; exact .ofC r
  | cel k =>
    obtain ⟨a, e, ev⟩ := r
    subst ev
    simp only [EV.see] at h
    cases hc : μ[k]? with
    | none => rw [hc] at h; cases h
    | some c =>
      rw [hc] at h
      cases h
      obtain ⟨b, e1, r⟩ := S.cell k c hc
      rw [e] at e1; cases e1
      exact .ofC r
end

/-! ### 3. names, constants -/
section
variable {K : PySem.W.Frag} {L : Addr → Prop} {H : Hp}
theorem rep_int {i : Int} : Rep K L H (.int i) (.int i) := by simp only [Rep]
theorem rep_bl {i : Bool} : Rep K L H (.bl i) (.bl i) := by simp only [Rep]
theorem rep_non : Rep K L H .non .non := by simp only [Rep]
theorem rep_str {x : Str} : Rep K L H (.str x) (.str x) := by simp only [Rep]
end
def eC (d : D) : SE := fun _ _ μ => .ok (.dat d) μ
def eV (i : Nat) : SE := fun _ ρ μ => match ρ[i]? with
  | some (some s) => .ok s.ev μ
  | _ => .bad
section
variable {X : Cx} {XC : Nat → Addr} {F : Fns} {W : WX}
theorem c_int {i : Int} {j pos} : PE X (.Constant (.int i) j pos) (rdE X.K XC F W (eC (.int i))) := PEimp pe_int fun σ H Q ⟨Acc, ι, ρ, μ, S, E, h⟩ =>
  h (V.int i) H (.refl S) ⟨rfl, trivial⟩
theorem c_bl {i : Bool} {j pos} : PE X (.Constant (.bool i) j pos) (rdE X.K XC F W (eC (.bl i))) := PEimp pe_bl fun σ H Q ⟨Acc, ι, ρ, μ, S, E, h⟩ =>
  h (V.bl i) H (.refl S) ⟨rfl, trivial⟩
theorem c_non {j pos} : PE X (.Constant .none j pos) (rdE X.K XC F W (eC .non)) := PEimp pe_non fun σ H Q ⟨Acc, ι, ρ, μ, S, E, h⟩ =>
  h (V.non) H (.refl S) ⟨rfl, trivial⟩
theorem c_str {x : Str} {j pos} : PE X (.Constant (.str x) j pos) (rdE X.K XC F W (eC (.str x))) := PEimp pe_str fun σ H Q ⟨Acc, ι, ρ, μ, S, E, h⟩ =>
  h (V.str x) H (.refl S) ⟨rfl, trivial⟩
theorem SvR.ev {K : PySem.W.Frag} {L : Addr → Prop} {ι : List Addr} {H0 H : Hp} {s : SV} {v : V} (h : SvR K L ι H s v) : EvR K L ι H0 H s.ev v := by
  cases s with
  | dat d => exact h
  | cel k => exact h
theorem SV.own {K : PySem.W.Frag} {Acc : Addr → Prop} {μ : Sto} {ι : List Addr} {H : Hp} (s : SV) {v : V} : OwnR K Acc μ ι H s.ev v := by
  cases s <;> trivial
theorem c_var {i : Nat} {x : Str} {pos : Pos} (hN : X.N[i]? = some x) (hv : Vis X.env.scope x) (hd : (x == ("__debug__" : Str)) = false) (hcd : (x == ("__classdict__" : Str)) = false) : PE X (.Name x pos) (rdE X.K XC F W (eV i)) :=
  PEimp (pe_var hN hv hd hcd) fun σ H Q ⟨Acc, ι, ρ, μ, S, E, h⟩ => by
    unfold eV at h
    cases e : ρ[i]? with
    | none => rw [e] at h; exact h.elim
    | some o =>
      cases o with
      | none => rw [e] at h; exact h.elim
      | some s =>
        rw [e] at h
        obtain ⟨v, e1, r⟩ := E.2 i s e
        exact ⟨v, e1, h v H (Stp.refl S) ⟨r.ev, s.own⟩⟩
/-- a constant of the module -/
theorem c_glob {x : Str} {v : V} {u : Value} {d : D} {pos : Pos} (hg : Gl X x) (hm : X.mg x = some u) (r : RelV v u) (rp : ∀ L H, Rep X.K L H d v) (hd : (x == ("__debug__" : Str)) = false) : PE X (.Name x pos) (rdE X.K XC F W (eC d)) :=
  PEimp (pe_glob hg hm r hd) fun σ H Q ⟨Acc, ι, ρ, μ, S, E, h⟩ => h v H (.refl S) ⟨rp _ _, trivial⟩
end

/-! ### 4. argument lists, displays -/
def evs : List SE → SA
  | [] => fun _ _ μ => .ok [] μ
  | f :: fs => fun F ρ μ => (f F ρ μ).bind fun v μ1 => (evs fs F ρ μ1).bind fun vs μ2 => .ok (v :: vs) μ2
def LIM : Nat := 1000000
theorem lim_ok {n : Nat} (h : n ≤ LIM) : n ≤ sizeLine := Nat.le_trans h (by decide)
def eTup (f : SA) : SE := fun F ρ μ => (f F ρ μ).bind fun vs μ1 => match frzs vs μ1 with
  | some (ds, μ2) => if ds.length ≤ LIM then .ok (.dat (.tup ds)) μ2 else .bad
  | none => .bad
def eLst (f : SA) : SE := fun F ρ μ => (f F ρ μ).bind fun vs μ1 => match frzs vs μ1 with
  | some (ds, μ2) => if ds.length ≤ LIM then .ok (.new (.lst ds)) μ2 else .bad
  | none => .bad
section
variable {K : PySem.W.Frag} {Acc : Addr → Prop} {ι : List Addr} {μ μ' : Sto} {H H0 : Hp}
/-- a cell is made still -/
theorem Sim.still (S : Sim K Acc μ ι H) {k : Nat} {c : Cell} (hc : μ[k]? = some c) : Stp K Acc ι μ H ι (μ.set k ⟨false, c.val⟩) H ∧ ∀ a, ι[k]? = some a → ¬ Liv Acc (μ.set k ⟨false, c.val⟩) ι a := by
  have hk : k < μ.length := (List.getElem?_eq_some_iff.mp hc).1
  have cl : ∀ a, Cel (μ.set k ⟨false, c.val⟩) ι a → Cel μ ι a := fun a ⟨j, c', e, l, h⟩ => by
    by_cases hj : k = j
    · subst hj
      rw [List.getElem?_set_self hk] at e
      cases e; cases l
    · rw [List.getElem?_set_ne hj] at e
      exact ⟨j, c', e, l, h⟩
  have m : Mv (Liv Acc μ ι) H (Liv Acc (μ.set k ⟨false, c.val⟩) ι) H := fun a o e n => ⟨e, fun z => n (z.elim (fun z => .inl (cl a z)) .inr)⟩
  refine ⟨⟨⟨by rw [List.length_set]; exact S.len, S.nd, S.acc, fun j c' e => ?_⟩, ⟨[], by simp, by simp⟩, fun a o e _ => e, fun a h => h, fun a h => .inl (cl a h)⟩, fun a ha z => ?_⟩
  · by_cases hj : k = j
    · subst hj
      rw [List.getElem?_set_self hk] at e
      cases e
      obtain ⟨a, e1, r⟩ := S.cell k c hc
      exact ⟨a, e1, r.mv m fun _ e => e⟩
    · rw [List.getElem?_set_ne hj] at e
      obtain ⟨a, e1, r⟩ := S.cell j c' e
      exact ⟨a, e1, r.mv m fun _ e => e⟩
  · rcases z with ⟨j, c', e, l, h⟩ | z
    · by_cases hj : k = j
      · subst hj
        rw [List.getElem?_set_self hk] at e
        cases e; cases l
      · have hi : k < ι.length := (List.getElem?_eq_some_iff.mp ha).1
        have : k = j := (List.getElem?_inj hi S.nd).mp (ha.trans h.symm)
        exact hj this
    · exact (S.acc a z).1 (List.mem_of_getElem? ha)
theorem CvR.rep {L : Addr → Prop} {c : CV} {a : Addr} (h : CvR K L H c a) (n : ¬ L a) : Rep K L H c.toD (.ref a) := by
  cases c with
  | lst ds => obtain ⟨vs, e, r⟩ := h; simp only [CV.toD, Rep]; exact ⟨a, vs, rfl, e, n, r⟩
  | dic ks ds => obtain ⟨vs, e, l, r⟩ := h; simp only [CV.toD, Rep]; exact ⟨a, vs, rfl, e, n, l, r⟩
theorem frz_ok {e : EV} {d : D} {v : V} {Hb : Hp} (S : Sim K Acc μ ι H) (hb : ∀ a ∈ ι, Hb a ≠ none) (hq : ∀ a, Acc a → Hb a ≠ none) (r : EvR K (Liv Acc μ ι) ι Hb H e v) (h : e.frz μ = some (d, μ')) :
    Stp K Acc ι μ H ι μ' H ∧ Rep K (Liv Acc μ' ι) H d v := by
  cases e with
  | dat x => cases h; exact ⟨.refl S, r⟩
  | new c =>
    cases h
    obtain ⟨p, e, n, r⟩ := r
    subst e
    refine ⟨.refl S, r.rep fun z => ?_⟩
    rcases z with z | z
    · exact hb p z.mem n
    · exact hq p z n
  | cel k =>
    obtain ⟨a, e, ev⟩ := r
    subst ev
    simp only [EV.frz] at h
    cases hc : μ[k]? with
    | none => rw [hc] at h; cases h
    | some c =>
      rw [hc] at h
      cases h
      obtain ⟨st, nl⟩ := S.still hc
      obtain ⟨b, e1, r⟩ := st.sim.cell k ⟨false, c.val⟩ (List.getElem?_set_self (List.getElem?_eq_some_iff.mp hc).1)
      rw [e] at e1; cases e1
      exact ⟨st, r.rep (nl a e)⟩
end
section
variable {K : PySem.W.Frag} {Acc : Addr → Prop} {ι : List Addr} {H Hb : Hp}
theorem EvsR.stay {μ μ' : Sto} (S : Sim K Acc μ ι H) (hb : ∀ a ∈ ι, Hb a ≠ none) (t : Stp K Acc ι μ H ι μ' H) : ∀ {es : List EV} {vs : List V}, EvsR K (Liv Acc μ ι) ι Hb H es vs → EvsR K (Liv Acc μ' ι) ι Hb H es vs
  | [], vs, h => h
  | e :: es, vs, h => by
    obtain ⟨v, r, e1, h1, h2⟩ := h
    refine ⟨v, r, e1, ?_, EvsR.stay S hb t h2⟩
    cases e with
    | dat d => exact Rep.mv (t.mv S) _ _ h1
    | cel k => exact h1
    | new c => obtain ⟨p, e, n, r⟩ := h1; exact ⟨p, e, n, r.mv (t.mv S) fun o ho => ho⟩
theorem frzs_ok : ∀ {es : List EV} {ds : List D} {vs : List V} {μ μ' : Sto}, Sim K Acc μ ι H → (∀ a ∈ ι, Hb a ≠ none) → (∀ a, Acc a → Hb a ≠ none) → EvsR K (Liv Acc μ ι) ι Hb H es vs → frzs es μ = some (ds, μ') →
    Stp K Acc ι μ H ι μ' H ∧ Reps K (Liv Acc μ' ι) H ds vs
  | [], ds, vs, μ, μ', S, hb, hq, r, h => by
    cases h
    have r : vs = [] := r
    subst r
    exact ⟨.refl S, Reps.nil⟩
  | e :: es, ds, vs, μ, μ', S, hb, hq, r, h => by
    obtain ⟨v, rs, e1, h1, h2⟩ := r
    subst e1
    unfold frzs at h
    cases hf : e.frz μ with
    | none => rw [hf] at h; cases h
    | some p =>
      obtain ⟨d, μ1⟩ := p
      rw [hf] at h
      simp only at h
      cases hg : frzs es μ1 with
      | none => rw [hg] at h; cases h
      | some q =>
        obtain ⟨ds', μ2⟩ := q
        rw [hg] at h
        cases h
        obtain ⟨t1, r1⟩ := frz_ok S hb hq h1 hf
        obtain ⟨t2, r2⟩ := frzs_ok t1.sim hb hq (h2.stay S hb t1) hg
        exact ⟨t1.trans t2, Reps.cons (Rep.mv (t2.mv t1.sim) _ _ r1) r2⟩
theorem Sim.accT {μ : Sto} (S : Sim K Acc μ ι H) : ∀ a, Acc a → H a ≠ none := fun a h => (S.acc a h).2
end
section
variable {X : Cx} {XC : Nat → Addr} {F : Fns} {W : WX} {e : Expr} {es : List Expr} {f : SE} {fs : List SE} {pos : Pos}
theorem ca_nil : PA X [] (rdA X.K XC F W (evs [])) := PAimp pa_nil fun σ H Q ⟨Acc, ι, ρ, μ, S, E, h⟩ => h [] H (.refl S) rfl
theorem ca_cons (ha : PE X e (rdE X.K XC F W f)) (hr : PA X es (rdA X.K XC F W (evs fs))) (hs : starEach (e :: es) X.env = (false, eval e X.env) :: starEach es X.env) : PA X (e :: es) (rdA X.K XC F W (evs (f :: fs))) :=
  PAimp (pa_cons ha hr hs) fun σ H Q ⟨Acc, ι, ρ, μ, S, E, h⟩ => by
    refine rd.bind (.refl S) E h fun v μ1 x H1 _ t1 r1 h1 => ?_
    refine rd.bind t1 (E.mv t1 S) h1 fun vs μ2 xs H2 _ t2 r2 h2 => ?_
    exact h2 (x :: xs) H2 (t1.trans t2) ⟨x, xs, rfl, EvR.mv t1 S t2 r1.1 rfl, EvsR.back t1 r2⟩

theorem c_tup {x1 : Nat} {fa : SA} (h : PA X es (rdA X.K XC F W fa)) : PE X (.Tuple es x1 pos) (rdE X.K XC F W (eTup fa)) :=
  PEimp (pe_tup h) fun σ H Q ⟨Acc, ι, ρ, μ, S, E, h⟩ => by
    refine rd.bind (.refl S) E h fun vs μ1 xs H1 _ t1 r1 h1 => ?_
    cases hf : frzs vs μ1 with
    | none => rw [hf] at h1; exact h1.elim
    | some p =>
      obtain ⟨ds, μ2⟩ := p
      rw [hf] at h1
      simp only at h1
      obtain ⟨t2, r2⟩ := frzs_ok t1.sim (fun a ha => S.trk ha) S.accT r1 hf
      by_cases hl : ds.length ≤ LIM
      · rw [if_pos hl] at h1
        refine ⟨by rw [r2.len]; exact lim_ok hl, fun p hp => h1 (.ref p) _ (t1.trans (t2.trans (t2.sim.up hp _))) ⟨t2.sim.newT hp r2, trivial⟩⟩
      · rw [if_neg hl] at h1; exact h1.elim
theorem c_lst {fa : SA} (h : PA X es (rdA X.K XC F W fa)) : PE X (.List es pos) (rdE X.K XC F W (eLst fa)) :=
  PEimp (pe_lst h) fun σ H Q ⟨Acc, ι, ρ, μ, S, E, h⟩ => by
    refine rd.bind (.refl S) E h fun vs μ1 xs H1 _ t1 r1 h1 => ?_
    cases hf : frzs vs μ1 with
    | none => rw [hf] at h1; exact h1.elim
    | some p =>
      obtain ⟨ds, μ2⟩ := p
      rw [hf] at h1
      simp only at h1
      obtain ⟨t2, r2⟩ := frzs_ok t1.sim (fun a ha => S.trk ha) S.accT r1 hf
      by_cases hl : ds.length ≤ LIM
      · rw [if_pos hl] at h1
        exact ⟨by rw [r2.len]; exact lim_ok hl, fun p hp => h1 (.ref p) _ (t1.trans (t2.trans (t2.sim.up hp _))) ⟨⟨p, rfl, (t1.trans t2).back hp, t2.sim.newL hp r2⟩, t2.sim.ownN hp r2⟩⟩
      · rw [if_neg hl] at h1; exact h1.elim
end

/-! ### 5. operators -/
def smallI (i : Int) : Bool := decide (-(2 ^ 64) < i) && decide (i < 2 ^ 64)
def opBin (op : Operator) (a b : D) : Option EV := match op, a, b with
  | .Add, .int i, .int j => some (.dat (.int (i + j)))
  | .Add, .str x, .str y => if x.length + y.length ≤ LIM then some (.dat (.str (x ++ y))) else none
  | .Add, .tup xs, .tup ys => if xs.length + ys.length ≤ LIM then some (.dat (.tup (xs ++ ys))) else none
  | .Add, .lst xs, .lst ys => if xs.length + ys.length ≤ LIM then some (.new (.lst (xs ++ ys))) else none
  | .Sub, .int i, .int j => some (.dat (.int (i - j)))
  | .Mult, .int i, .int j => if smallI i || smallI j then some (.dat (.int (i * j))) else none
  | .Mult, .lst xs, .int k => if 0 ≤ k ∧ k ≤ 1000000 ∧ xs.length * k.toNat ≤ LIM then some (.new (.lst (List.replicate k.toNat xs).flatten)) else none
  | .FloorDiv, .int i, .int j => if 0 < j ∧ j < 1073741824 then some (.dat (.int (i / j))) else none
  | .Mod, .int i, .int j => if 0 < j then some (.dat (.int (i % j))) else none
  | .Pow, .int i, .int j => if 0 ≤ j ∧ j ≤ 1000000 ∧ i.natAbs < 2 ^ 64 then some (.dat (.int (i ^ j.toNat))) else none
  | _, _, _ => none
def lift2 (f : D → D → Option EV) (a b : EV) (μ : Sto) : Res EV := match a.see μ, b.see μ with
  | some x, some y => match f x y with
    | some e => .ok e μ
    | none => .bad
  | _, _ => .bad
def eBin (op : Operator) (f g : SE) : SE := fun F ρ μ => (f F ρ μ).bind fun a μ1 => (g F ρ μ1).bind fun b μ2 => lift2 (opBin op) a b μ2
/-- what an operation on two values must give -/
def Op2 (K : PySem.W.Frag) (f : D → D → Option EV) (r : R2) : Prop :=
  ∀ (Acc : Addr → Prop) (ι : List Addr) (μ : Sto) (H : Hp) (a b : D) (x y : V) (e : EV) (Q : VK), Sim K Acc μ ι H → SeeR K (Liv Acc μ ι) H a x → SeeR K (Liv Acc μ ι) H b y → f a b = some e →
    (∀ v H', Stp K Acc ι μ H ι μ H' → relE K Acc μ ι H H' e v → Q v H') → r x y H Q
theorem lift2_ok {K : PySem.W.Frag} {XC : Nat → Addr} {W : WX} {Acc : Addr → Prop} {ι : List Addr} {μ μ0 : Sto} {H H0 : Hp} {σ : L2.St} {f : D → D → Option EV} {r : R2} {a b : EV} {x y : V} {Q : VK} (ho : Op2 K f r) (S0 : Sim K Acc μ0 ι H0) (t : Stp K Acc ι μ0 H0 ι μ H)
    (ra : EvR K (Liv Acc μ ι) ι H0 H a x) (rb : EvR K (Liv Acc μ ι) ι H0 H b y) (h : wp (relE K) K XC W Acc ι μ0 H0 σ (lift2 f a b μ) Q) : r x y H Q := by
  unfold lift2 at h
  cases ea : a.see μ with
  | none => rw [ea] at h; exact h.elim
  | some da =>
    cases eb : b.see μ with
    | none => rw [ea, eb] at h; exact h.elim
    | some db =>
      rw [ea, eb] at h
      simp only at h
      cases ef : f da db with
      | none => rw [ef] at h; exact h.elim
      | some e =>
        rw [ef] at h
        exact ho Acc ι μ H da db x y e Q t.sim (see_ok t.sim ra ea) (see_ok t.sim rb eb) ef fun v H' t' rv => h v H' (t.trans t') ⟨EvR.back t rv.1, rv.2⟩
section
variable {X : Cx} {XC : Nat → Addr} {F : Fns} {W : WX} {ea eb : Expr} {fa fb : SE} {pos : Pos}
theorem two_ok {K : PySem.W.Frag} {σ : L2.St} {H : Hp} {Q : VK} {f : D → D → Option EV} {r : R2} (ho : Op2 K f r)
    (h : rdE K XC F W (fun F ρ μ => (fa F ρ μ).bind fun a μ1 => (fb F ρ μ1).bind fun b μ2 => lift2 f a b μ2) σ H Q) : tOp r (rdE K XC F W fa) (rdE K XC F W fb) σ H Q := by
  obtain ⟨Acc, ι, ρ, μ, S, E, h⟩ := h
  refine rd.bind (.refl S) E h fun a μ1 x H1 _ t1 r1 h1 => ?_
  refine rd.bind t1 (E.mv t1 S) h1 fun b μ2 y H2 _ t2 r2 h2 => ?_
  exact lift2_ok ho S (t1.trans t2) (EvR.mv t1 S t2 r1.1 rfl) (EvR.back t1 r2.1) h2
theorem c_bin {op : Operator} {r : R2} (hr : OpR X (binaryOp op) r) (ho : Op2 X.K (opBin op) r) (ha : PE X ea (rdE X.K XC F W fa)) (hb : PE X eb (rdE X.K XC F W fb)) : PE X (.BinOp ea op eb pos) (rdE X.K XC F W (eBin op fa fb)) :=
  PEimp (pe_op hr ha hb) fun _ _ _ h => two_ok ho h
/-- a comparison as a value -/
def eCmp (f : D → D → Option Bool) (fa fb : SE) : SE := fun F ρ μ => (fa F ρ μ).bind fun a μ1 => (fb F ρ μ1).bind fun b μ2 => lift2 (fun x y => (f x y).map fun k => .dat (.bl k)) a b μ2
abbrev Cmp2 (K : PySem.W.Frag) (f : D → D → Option Bool) (r : R2) : Prop := Op2 K (fun x y => (f x y).map fun k => .dat (.bl k)) r
theorem c_cmp {op : CmpOp} {f : D → D → Option Bool} {r : R2} (hr : OpR X (compareOp op) r) (ho : Cmp2 X.K f r) (ha : PE X ea (rdE X.K XC F W fa)) (hb : PE X eb (rdE X.K XC F W fb)) (hm : behindInMarks op eb = false) : PE X (.Compare ea [op] [eb] pos) (rdE X.K XC F W (eCmp f fa fb)) :=
  PEimp (pe_cmpR hr ha hb hm) fun _ _ _ h => two_ok ho h
/-- a comparison as a test -/
def lift2B (f : D → D → Option Bool) (a b : EV) (μ : Sto) : Res Bool := match a.see μ, b.see μ with
  | some x, some y => match f x y with
    | some e => .ok e μ
    | none => .bad
  | _, _ => .bad
def bCmp (f : D → D → Option Bool) (fa fb : SE) : SB := fun F ρ μ => (fa F ρ μ).bind fun a μ1 => (fb F ρ μ1).bind fun b μ2 => lift2B f a b μ2
theorem lift2B_ok {K : PySem.W.Frag} {Acc : Addr → Prop} {ι : List Addr} {μ μ0 : Sto} {H H0 : Hp} {σ : L2.St} {f : D → D → Option Bool} {r : R2} {a b : EV} {x y : V} {Q : Bool → Hp → Prop} (ho : Cmp2 K f r) (S0 : Sim K Acc μ0 ι H0) (t : Stp K Acc ι μ0 H0 ι μ H)
    (ra : EvR K (Liv Acc μ ι) ι H0 H a x) (rb : EvR K (Liv Acc μ ι) ι H0 H b y) (h : wp relB K XC W Acc ι μ0 H0 σ (lift2B f a b μ) Q) : r x y H fun z H' => ∃ k, z = .bl k ∧ Q k H' := by
  unfold lift2B at h
  cases ea : a.see μ with
  | none => rw [ea] at h; exact h.elim
  | some da =>
    cases eb : b.see μ with
    | none => rw [ea, eb] at h; exact h.elim
    | some db =>
      rw [ea, eb] at h
      simp only at h
      cases ef : f da db with
      | none => rw [ef] at h; exact h.elim
      | some e =>
        rw [ef] at h
        exact ho Acc ι μ H da db x y (.dat (.bl e)) _ t.sim (see_ok t.sim ra ea) (see_ok t.sim rb eb) (by show Option.map _ (f da db) = _; rw [ef]; rfl) fun v H' t' rv => ⟨e, rv.1, h e H' (t.trans t') rfl⟩
theorem ct_cmp {op : CmpOp} {f : D → D → Option Bool} {r : R2} (hr : OpR X (compareOp op) r) (ho : Cmp2 X.K f r) (ha : PE X ea (rdE X.K XC F W fa)) (hb : PE X eb (rdE X.K XC F W fb)) (hm : behindInMarks op eb = false) : PT X (.Compare ea [op] [eb] pos) (rdB X.K XC F W (bCmp f fa fb)) :=
  PTimp (pt_cmpR hr ha hb hm) fun σ H Q ⟨Acc, ι, ρ, μ, S, E, h⟩ => by
    refine rd.bind (.refl S) E h fun a μ1 x H1 _ t1 r1 h1 => ?_
    refine rd.bind t1 (E.mv t1 S) h1 fun b μ2 y H2 _ t2 r2 h2 => ?_
    exact lift2B_ok ho S (t1.trans t2) (EvR.mv t1 S t2 r1.1 rfl) (EvR.back t1 r2.1) h2
end
end VM
/-! Operators on data: what the interpreter reckons, and that the machine does so. -/
namespace VM
open PySem L2

/-! ### 1. arithmetic -/
section
variable {K : PySem.W.Frag} {Acc : Addr → Prop} {ι : List Addr} {μ : Sto} {H : Hp}
theorem fin_dat {d : D} {v : V} {Q : VK} (S : Sim K Acc μ ι H) (q : ∀ v H', Stp K Acc ι μ H ι μ H' → relE K Acc μ ι H H' (.dat d) v → Q v H') (r : Rep K (Liv Acc μ ι) H d v) : Q v H := q v H (.refl S) ⟨r, trivial⟩
theorem fin_tup {ds : List D} {vs : List V} {Q : VK} (S : Sim K Acc μ ι H) (q : ∀ v H', Stp K Acc ι μ H ι μ H' → relE K Acc μ ι H H' (.dat (.tup ds)) v → Q v H') (r : Reps K (Liv Acc μ ι) H ds vs) {p : Addr} (n : H p = none) : Q (.ref p) (upd H p (.tup vs)) :=
  q _ _ (S.up n _) ⟨S.newT n r, trivial⟩
theorem fin_lst {ds : List D} {vs : List V} {Q : VK} (S : Sim K Acc μ ι H) (q : ∀ v H', Stp K Acc ι μ H ι μ H' → relE K Acc μ ι H H' (.new (.lst ds)) v → Q v H') (r : Reps K (Liv Acc μ ι) H ds vs) {p : Addr} (n : H p = none) : Q (.ref p) (upd H p (.lst vs)) :=
  q _ _ (S.up n _) ⟨⟨p, rfl, n, S.newL n r⟩, S.ownN n r⟩
theorem seeT {L : Addr → Prop} {ds : List D} {x : V} (h : SeeR K L H (.tup ds) x) : ∃ a vs, x = .ref a ∧ TupN K L H a vs ∧ Reps K L H ds vs := by
  have h : Rep K L H (.tup ds) x := h
  simpa only [Rep] using h
theorem seeL {L : Addr → Prop} {ds : List D} {x : V} (h : SeeR K L H (.lst ds) x) : ∃ a vs, x = .ref a ∧ H a = some (.lst vs) ∧ Reps K L H ds vs := h
theorem seeI {L : Addr → Prop} {i : Int} {x : V} (h : SeeR K L H (.int i) x) : x = .int i := h
theorem seeS {L : Addr → Prop} {i : Str} {x : V} (h : SeeR K L H (.str i) x) : x = .str i := h
theorem seeB {L : Addr → Prop} {i : Bool} {x : V} (h : SeeR K L H (.bl i) x) : x = .bl i := h
theorem seeN {L : Addr → Prop} {x : V} (h : SeeR K L H .non x) : x = .non := h
theorem Reps.flat {L : Addr → Prop} {ds : List D} {vs : List V} (r : Reps K L H ds vs) : ∀ k : Nat, Reps K L H (List.replicate k ds).flatten (List.replicate k vs).flatten
  | 0 => Reps.nil
  | k + 1 => by
    rw [List.replicate_succ, List.replicate_succ, List.flatten_cons, List.flatten_cons]
    exact r.app (Reps.flat r k)
end

def rAdd (K : PySem.W.Frag) : R2 := fun x y H Q => ((rI0 fun i j => .int (i + j)) x y H Q ∨ (∃ i j, x = .str i ∧ y = .str j ∧ i.length + j.length ≤ sizeLine ∧ Q (.str (i ++ j)) H)) ∨ rCatA K x y H Q ∨ rCat x y H Q
section
variable {X : Cx}
theorem or_add : OpR X (binaryOp .Add) (rAdd X.K) := by
  refine OpR.or (OpR.or op_add ?_) (OpR.or op_catA op_cat)
  intro pins s σ H x y v u Q I rx ry h
  obtain ⟨i, j, rfl, rfl, hz, q⟩ := h
  exact op_add_str pins s σ H _ _ v u Q I rx ry ⟨i, j, rfl, rfl, hz, q⟩
theorem o2_add : Op2 X.K (opBin .Add) (rAdd X.K) := by
  intro Acc ι μ H a b x y e Q S ra rb h q
  cases a <;> cases b <;> simp only [opBin, reduceCtorEq] at h
  · cases h
    rw [seeI ra, seeI rb]
    exact .inl (.inl ⟨_, _, rfl, rfl, fin_dat S q rep_int⟩)
  · rename_i i j
    split at h
    · rename_i hl
      cases h
      rw [seeS ra, seeS rb]
      exact .inl (.inr ⟨_, _, rfl, rfl, lim_ok hl, fin_dat S q rep_str⟩)
    · cases h
  · rename_i xs ys
    split at h
    · rename_i hl
      cases h
      obtain ⟨p, vs, rfl, tp, rp⟩ := seeT ra
      obtain ⟨p', ws, rfl, tp', rp'⟩ := seeT rb
      have r := rp.app rp'
      refine .inr (.inl ⟨p, p', vs, ws, rfl, rfl, tp.sq, tp'.sq, by rw [rp.len, rp'.len]; exact lim_ok hl, fun e => ?_, fun _ e => ?_, fun _ _ p2 n => fin_tup S q r n⟩)
      · subst e
        refine fin_dat S q ?_
        simp only [Rep]
        exact ⟨p', ws, rfl, tp', by simpa using r⟩
      · subst e
        refine fin_dat S q ?_
        simp only [Rep]
        exact ⟨p, vs, rfl, tp, by simpa using r⟩
    · cases h
  · rename_i xs ys
    split at h
    · rename_i hl
      cases h
      obtain ⟨p, vs, rfl, tp, rp⟩ := seeL ra
      obtain ⟨p', ws, rfl, tp', rp'⟩ := seeL rb
      exact .inr (.inr ⟨p, p', vs, ws, rfl, rfl, tp, tp', by rw [rp.len, rp'.len]; exact lim_ok hl, fun p2 n => fin_lst S q (rp.app rp') n⟩)
    · cases h
theorem o2_sub : Op2 X.K (opBin .Sub) (rI0 fun i j => .int (i - j)) := by
  intro Acc ι μ H a b x y e Q S ra rb h q
  cases a <;> cases b <;> simp only [opBin, reduceCtorEq] at h
  cases h
  rw [seeI ra, seeI rb]
  exact ⟨_, _, rfl, rfl, fin_dat S q rep_int⟩
def rMul : R2 := fun x y H Q => (rI CMul fun i j => .int (i * j)) x y H Q ∨ rRep x y H Q
theorem or_mul : OpR X (binaryOp .Mult) rMul := OpR.or op_mul op_rep
theorem smallI_iff {i : Int} : smallI i = true ↔ -(2 ^ 64) < i ∧ i < 2 ^ 64 := by
  unfold smallI
  simp
theorem o2_mul : Op2 X.K (opBin .Mult) rMul := by
  intro Acc ι μ H a b x y e Q S ra rb h q
  cases a <;> cases b <;> simp only [opBin, reduceCtorEq] at h
  · rename_i i j
    split at h
    · rename_i hs
      cases h
      rw [seeI ra, seeI rb]
      refine .inl ⟨_, _, rfl, rfl, ?_, fin_dat S q rep_int⟩
      rw [Bool.or_eq_true] at hs
      rcases hs with hs | hs
      · exact .inl (smallI_iff.mp hs)
      · exact .inr (smallI_iff.mp hs)
    · cases h
  · rename_i xs k
    split at h
    · rename_i hs
      cases h
      obtain ⟨h0, h1, h2⟩ := hs
      obtain ⟨p, vs, rfl, tp, rp⟩ := seeL ra
      rw [seeI rb]
      exact .inr ⟨p, k, vs, rfl, rfl, tp, by omega, by omega, by rw [rp.len]; exact lim_ok h2, fun p2 n => fin_lst S q (rp.flat _) n⟩
    · cases h
theorem o2_fdiv : Op2 X.K (opBin .FloorDiv) (rI CDiv fun i j => .int (i / j)) := by
  intro Acc ι μ H a b x y e Q S ra rb h q
  cases a <;> cases b <;> simp only [opBin, reduceCtorEq] at h
  split at h
  · rename_i hs
    cases h
    rw [seeI ra, seeI rb]
    exact ⟨_, _, rfl, rfl, hs, fin_dat S q rep_int⟩
  · cases h
theorem o2_mod : Op2 X.K (opBin .Mod) (rI (fun _ j => 0 < j) fun i j => .int (i % j)) := by
  intro Acc ι μ H a b x y e Q S ra rb h q
  cases a <;> cases b <;> simp only [opBin, reduceCtorEq] at h
  split at h
  · rename_i hs
    cases h
    rw [seeI ra, seeI rb]
    exact ⟨_, _, rfl, rfl, hs, fin_dat S q rep_int⟩
  · cases h
theorem o2_pow : Op2 X.K (opBin .Pow) (rI CPow fun i j => .int (i ^ j.toNat)) := by
  intro Acc ι μ H a b x y e Q S ra rb h q
  cases a <;> cases b <;> simp only [opBin, reduceCtorEq] at h
  split at h
  · rename_i hs
    cases h
    rw [seeI ra, seeI rb]
    exact ⟨_, _, rfl, rfl, hs, fin_dat S q rep_int⟩
  · cases h
end
/-- the operators that are served -/
theorem bin_ok (X : Cx) (op : Operator) : ∃ r, OpR X (binaryOp op) r ∧ Op2 X.K (opBin op) r := by
  cases op with
  | Add => exact ⟨_, or_add, o2_add⟩
  | Sub => exact ⟨_, op_sub, o2_sub⟩
  | Mult => exact ⟨_, or_mul, o2_mul⟩
  | FloorDiv => exact ⟨_, op_fdiv, o2_fdiv⟩
  | Mod => exact ⟨_, op_mod, o2_mod⟩
  | Pow => exact ⟨_, op_pow, o2_pow⟩
  | _ => exact ⟨fun _ _ _ _ => False, fun _ _ _ _ _ _ _ _ _ _ _ _ h => h.elim, fun _ _ _ _ a b _ _ _ _ _ _ _ h _ => by cases a <;> cases b <;> simp [opBin] at h⟩

/-! ### 2. == -/
mutual
def eqv : D → D → Bool
  | .non, .non => true
  | .bl a, .bl b => a == b
  | .bl a, .int j => (if a then 1 else 0) == j
  | .int i, .bl b => i == (if b then 1 else 0)
  | .int i, .int j => i == j
  | .str x, .str y => x.cps.toList == y.cps.toList
  | .lst xs, .lst ys => eqvs xs ys
  | .tup xs, .tup ys => eqvs xs ys
  | _, _ => false
def eqvs : List D → List D → Bool
  | [], [] => true
  | x :: xs, y :: ys => eqv x y && eqvs xs ys
  | _, _ => false
end
mutual
/-- what == may be asked of: nested at most n deep, texts of signs, no dict -/
def fits : Nat → D → Bool
  | _, .non => true
  | _, .bl _ => true
  | _, .int _ => true
  | _, .str x => x.cps.toList.all (· < 0x110000)
  | n + 1, .tup ds => fitsAll n ds
  | n + 1, .lst ds => fitsAll n ds
  | _, _ => false
def fitsAll : Nat → List D → Bool
  | _, [] => true
  | n, d :: ds => fits n d && fitsAll n ds
end
mutual
def D.py : D → PyData
  | .non => .none
  | .bl b => .bool b
  | .int i => .int i
  | .str x => .str x
  | .tup ds => .tuple (pys ds)
  | .lst ds => .list (pys ds)
  | .dic _ _ => .none
  | .scr _ => .none
def pys : List D → List PyData
  | [] => []
  | d :: ds => d.py :: pys ds
end
theorem str_beq {x y : Str} : (x == y) = (x.cps.toList == y.cps.toList) := by
  rw [Bool.eq_iff_iff, beq_iff_eq, beq_iff_eq]
  constructor
  · rintro rfl; rfl
  · intro h
    cases x; cases y
    congr 1
    exact Array.toList_inj.mp h
mutual
theorem eqv_py : ∀ (n m : Nat) (a b : D), fits n a = true → fits m b = true → PyData.eqv a.py b.py = eqv a b
  | n, m, a, b, ha, hb => by
    cases a with
    | dic _ _ => cases n <;> simp [fits] at ha
    | scr _ => cases n <;> simp [fits] at ha
    | tup xs =>
      cases b with
      | dic _ _ => cases m <;> simp [fits] at hb
      | scr _ => cases m <;> simp [fits] at hb
      | tup ys =>
        cases n with
        | zero => simp [fits] at ha
        | succ n =>
          cases m with
          | zero => simp [fits] at hb
          | succ m =>
            simp only [D.py, PyData.eqv, eqv]
            exact eqvs_py n m xs ys (by simpa [fits] using ha) (by simpa [fits] using hb)
      | _ => simp [D.py, PyData.eqv, eqv]
    | lst xs =>
      cases b with
      | dic _ _ => cases m <;> simp [fits] at hb
      | scr _ => cases m <;> simp [fits] at hb
      | lst ys =>
        cases n with
        | zero => simp [fits] at ha
        | succ n =>
          cases m with
          | zero => simp [fits] at hb
          | succ m =>
            simp only [D.py, PyData.eqv, eqv]
            exact eqvs_py n m xs ys (by simpa [fits] using ha) (by simpa [fits] using hb)
      | _ => simp [D.py, PyData.eqv, eqv]
    | str x =>
      cases b with
      | dic _ _ => cases m <;> simp [fits] at hb
      | scr _ => cases m <;> simp [fits] at hb
      | str y => simp only [D.py, PyData.eqv, eqv]; exact str_beq
      | _ => simp [D.py, PyData.eqv, eqv]
    | _ =>
      cases b with
      | dic _ _ => cases m <;> simp [fits] at hb
      | scr _ => cases m <;> simp [fits] at hb
      | _ => simp [D.py, PyData.eqv, eqv]
theorem eqvs_py : ∀ (n m : Nat) (a b : List D), fitsAll n a = true → fitsAll m b = true → PyData.eqvAll (pys a) (pys b) = eqvs a b
  | n, m, [], [], _, _ => by simp [pys, PyData.eqvAll, eqvs]
  | n, m, [], _ :: _, _, _ => by simp [pys, PyData.eqvAll, eqvs]
  | n, m, _ :: _, [], _, _ => by simp [pys, PyData.eqvAll, eqvs]
  | n, m, a :: as, b :: bs, ha, hb => by
    simp only [fitsAll, Bool.and_eq_true] at ha hb
    simp only [pys, PyData.eqvAll, eqvs, eqv_py n m a b ha.1 hb.1, eqvs_py n m as bs ha.2 hb.2]
end
mutual
theorem fits_lay : ∀ (n : Nat) (a : D), fits n a = true → a.py.canLay0 = true ∧ a.py.depth ≤ n
  | n, .non, h => by simp [D.py, PyData.canLay0, PyData.depth]
  | n, .bl _, h => by simp [D.py, PyData.canLay0, PyData.depth]
  | n, .int _, h => by simp [D.py, PyData.canLay0, PyData.depth]
  | n, .str x, h => by
    simp only [D.py, PyData.canLay0, PyData.depth, PyData.strOk]
    refine ⟨?_, Nat.zero_le _⟩
    have h' : x.cps.toList.all (fun c => decide (c < 0x110000)) = true := by cases n <;> simpa [fits] using h
    simpa [← Array.all_toList] using h'
  | 0, .tup ds, h => by simp [fits] at h
  | 0, .lst ds, h => by simp [fits] at h
  | n + 1, .tup ds, h => by
    obtain ⟨h1, h2⟩ := fitsAll_lay n ds (by simpa [fits] using h)
    simp only [D.py, PyData.canLay0, PyData.depth]
    exact ⟨h1, by omega⟩
  | n + 1, .lst ds, h => by
    obtain ⟨h1, h2⟩ := fitsAll_lay n ds (by simpa [fits] using h)
    simp only [D.py, PyData.canLay0, PyData.depth]
    exact ⟨h1, by omega⟩
  | n, .dic _ _, h => by cases n <;> simp [fits] at h
  | n, .scr _, h => by cases n <;> simp [fits] at h
theorem fitsAll_lay : ∀ (n : Nat) (a : List D), fitsAll n a = true → PyData.canLayAll0 (pys a) = true ∧ PyData.depthAll (pys a) ≤ n
  | n, [], h => by simp [pys, PyData.canLayAll0, PyData.depthAll]
  | n, a :: as, h => by
    simp only [fitsAll, Bool.and_eq_true] at h
    obtain ⟨h1, h2⟩ := fits_lay n a h.1
    obtain ⟨h3, h4⟩ := fitsAll_lay n as h.2
    simp only [pys, PyData.canLayAll0, PyData.depthAll, h1, h3, Bool.and_self, true_and]
    exact Nat.max_le.mpr ⟨h2, h4⟩
end
theorem fits_shaped {a : D} (h : fits 64 a = true) : SeqAt.shaped a.py = true := by
  obtain ⟨h1, h2⟩ := fits_lay 64 a h
  unfold SeqAt.shaped
  rw [h1, decide_eq_true h2]
  rfl
mutual
theorem Rep.dp {K : PySem.W.Frag} {L : Addr → Prop} {H : Hp} : ∀ (n : Nat) (d : D) (v : V), fits n d = true → Rep K L H d v → Dp K H v d.py
  | n, .non, v, h, r => by simp only [Rep] at r; subst r; simp only [D.py]; exact .non
  | n, .bl b, v, h, r => by simp only [Rep] at r; subst r; simp only [D.py]; exact .bl b
  | n, .int b, v, h, r => by simp only [Rep] at r; subst r; simp only [D.py]; exact .int b
  | n, .str b, v, h, r => by simp only [Rep] at r; subst r; simp only [D.py]; exact .str b
  | 0, .tup ds, v, h, r => by simp [fits] at h
  | 0, .lst ds, v, h, r => by simp [fits] at h
  | n + 1, .tup ds, v, h, r => by
    simp only [Rep] at r
    obtain ⟨a, vs, rfl, t, r⟩ := r
    simp only [D.py]
    exact .tup t.sq (Reps.dp n ds vs (by simpa [fits] using h) r)
  | n + 1, .lst ds, v, h, r => by
    simp only [Rep] at r
    obtain ⟨a, vs, rfl, t, _, r⟩ := r
    simp only [D.py]
    exact .lst (SqL.of t) (Reps.dp n ds vs (by simpa [fits] using h) r)
  | n, .dic _ _, v, h, r => by cases n <;> simp [fits] at h
  | n, .scr _, v, h, r => by cases n <;> simp [fits] at h
theorem Reps.dp {K : PySem.W.Frag} {L : Addr → Prop} {H : Hp} : ∀ (n : Nat) (ds : List D) (vs : List V), fitsAll n ds = true → Reps K L H ds vs → DpAll K H vs (pys ds)
  | n, [], vs, h, r => by rw [r.invN]; simp only [pys]; exact .nil
  | n, d :: ds, vs, h, r => by
    obtain ⟨v, rs, rfl, h1, h2⟩ := r.inv
    simp only [fitsAll, Bool.and_eq_true] at h
    simp only [pys]
    exact .cons (Rep.dp n d v h.1 h1) (Reps.dp n ds rs h.2 h2)
end
theorem SeeR.dp {K : PySem.W.Frag} {L : Addr → Prop} {H : Hp} {d : D} {v : V} (h : fits 64 d = true) (r : SeeR K L H d v) : Dp K H v d.py := by
  cases d with
  | lst ds =>
    obtain ⟨a, vs, rfl, t, r⟩ := r
    simp only [D.py]
    exact .lst (SqL.of t) (Reps.dp 63 ds vs (by simpa [fits] using h) r)
  | dic _ _ => simp [fits] at h
  | _ => exact Rep.dp (L := L) 64 _ v h r
/-- two texts -/
def txEq (a b : D) : Option Bool := match a, b with
  | .str x, .str y => some (x.cps.toList == y.cps.toList)
  | _, _ => none
/-- ==: texts at once, the rest where it fits -/
def opEq (a b : D) : Option Bool := match txEq a b with
  | some k => some k
  | none => if fits 64 a && fits 64 b then some (eqv a b) else none
section
variable {X : Cx}
theorem txEq_ok {K : PySem.W.Frag} {L : Addr → Prop} {H : Hp} {a b : D} {x y : V} {k : Bool} (h : txEq a b = some k) (ra : SeeR K L H a x) (rb : SeeR K L H b y) : scal x y = true ∧ k = decide (x = y) := by
  cases a <;> cases b <;> simp only [txEq, reduceCtorEq] at h
  cases h
  rename_i i j
  rw [seeS ra, seeS rb]
  refine ⟨rfl, ?_⟩
  rw [dec_str, str_beq]
theorem o2_eq : Cmp2 X.K opEq (fun x y H Q => rEq x y H Q ∨ rEqD X.K x y H Q) := by
  intro Acc ι μ H a b x y e Q S ra rb h q
  simp only [opEq] at h
  cases ht : txEq a b with
  | some k =>
    rw [ht] at h
    cases h
    obtain ⟨h1, h2⟩ := txEq_ok ht ra rb
    refine .inl ⟨h1, ?_⟩
    rw [← h2]
    exact fin_dat S q rep_bl
  | none =>
    rw [ht] at h
    simp only at h
    by_cases hf : (fits 64 a && fits 64 b) = true
    · rw [if_pos hf] at h
      cases h
      rw [Bool.and_eq_true] at hf
      refine .inr ⟨a.py, b.py, ra.dp hf.1, rb.dp hf.2, fits_shaped hf.1, fits_shaped hf.2, ?_⟩
      rw [eqv_py 64 64 a b hf.1 hf.2]
      exact fin_dat S q rep_bl
    · rw [if_neg hf] at h; cases h
theorem o2_ne : Cmp2 X.K (fun a b => (opEq a b).map (!·)) (fun x y H Q => rNe x y H Q ∨ rNeD X.K x y H Q) := by
  intro Acc ι μ H a b x y e Q S ra rb h q
  simp only [opEq] at h
  cases ht : txEq a b with
  | some k =>
    rw [ht] at h
    cases h
    obtain ⟨h1, h2⟩ := txEq_ok ht ra rb
    refine .inl ⟨h1, ?_⟩
    rw [← h2]
    exact fin_dat S q rep_bl
  | none =>
    rw [ht] at h
    simp only at h
    by_cases hf : (fits 64 a && fits 64 b) = true
    · rw [if_pos hf] at h
      cases h
      rw [Bool.and_eq_true] at hf
      refine .inr ⟨a.py, b.py, ra.dp hf.1, rb.dp hf.2, fits_shaped hf.1, fits_shaped hf.2, ?_⟩
      rw [eqv_py 64 64 a b hf.1 hf.2]
      exact fin_dat S q rep_bl
    · rw [if_neg hf] at h; cases h
end
end VM
/-! Comparisons, truth, and/or, subscripts. -/
namespace VM
open PySem L2 PyProof.Rows

/-! ### 1. comparisons of ints; is; in -/
def opI (f : Int → Int → Bool) (a b : D) : Option Bool := match a, b with
  | .int i, .int j => some (f i j)
  | _, _ => none
section
variable {X : Cx}
theorem o2_int {f : Int → Int → Bool} : Cmp2 X.K (opI f) (rI0 fun i j => .bl (f i j)) := by
  intro Acc ι μ H a b x y e Q S ra rb h q
  cases a <;> cases b <;> simp only [opI, Option.map_none, Option.map_some, reduceCtorEq] at h
  cases h
  rw [seeI ra, seeI rb]
  exact ⟨_, _, rfl, rfl, fin_dat S q rep_bl⟩
/-- x is None, True, False -/
def D.isNon : D → Bool
  | .non => true
  | _ => false
def opIs (a b : D) : Option Bool := match b with
  | .non => some a.isNon
  | .bl j => match a with
    | .bl i => some (i == j)
    | .int _ => some false
    | .str _ => some false
    | .non => some false
    | _ => none
  | _ => none
def rIs1 : R2 := fun x y H Q => y = .non ∧ Q (.bl (decide (x = .non))) H
def rIs2 : R2 := fun x y H Q => ∃ j, y = .bl j ∧ ((∃ i, x = .bl i) ∨ (∃ i, x = .int i) ∨ (∃ i, x = .str i) ∨ x = .non) ∧ Q (.bl (decide (x = .bl j))) H
def rNot2 : R2 := fun x y H Q => ∃ j, y = .bl j ∧ ((∃ i, x = .bl i) ∨ (∃ i, x = .int i) ∨ (∃ i, x = .str i) ∨ x = .non) ∧ Q (.bl (!decide (x = .bl j))) H
theorem op_is2 : OpR X (compareOp .Is) rIs2 := by
  intro pins s σ H x y v u Q I rx ry h
  obtain ⟨j, rfl, hx, q⟩ := h
  cases (show u = Value.bool j from ry)
  rcases hx with ⟨i, rfl⟩ | ⟨i, rfl⟩ | ⟨i, rfl⟩ | rfl
  · cases (show v = Value.bool i from rx)
    by_cases e : i = j
    · subst e
      exact wpAny_is_self rfl ⟨.bl true, H, I, rfl, by simpa using q⟩
    · exact wpAny_is_other rfl (fun z => e (Value.bool.inj z)) ⟨.bl false, H, I, rfl, by simpa [e] using q⟩
  · obtain ⟨t, rfl⟩ := rx
    exact wpAny_is_other rfl (fun z => by cases z) ⟨.bl false, H, I, rfl, by simpa using q⟩
  · obtain ⟨t, rfl⟩ := rx
    exact wpAny_is_other rfl (fun z => by cases z) ⟨.bl false, H, I, rfl, by simpa using q⟩
  · cases (show v = Value.none from rx)
    exact wpAny_is_other rfl (fun z => by cases z) ⟨.bl false, H, I, rfl, by simpa using q⟩
theorem op_not2 : OpR X (compareOp .IsNot) rNot2 := by
  intro pins s σ H x y v u Q I rx ry h
  obtain ⟨j, rfl, hx, q⟩ := h
  cases (show u = Value.bool j from ry)
  rcases hx with ⟨i, rfl⟩ | ⟨i, rfl⟩ | ⟨i, rfl⟩ | rfl
  · cases (show v = Value.bool i from rx)
    by_cases e : i = j
    · subst e
      exact wpAny_isNot_self rfl ⟨.bl false, H, I, rfl, by simpa using q⟩
    · exact wpAny_isNot_other rfl (fun z => e (Value.bool.inj z)) ⟨.bl true, H, I, rfl, by simpa [e] using q⟩
  · obtain ⟨t, rfl⟩ := rx
    exact wpAny_isNot_other rfl (fun z => by cases z) ⟨.bl true, H, I, rfl, by simpa using q⟩
  · obtain ⟨t, rfl⟩ := rx
    exact wpAny_isNot_other rfl (fun z => by cases z) ⟨.bl true, H, I, rfl, by simpa using q⟩
  · cases (show v = Value.none from rx)
    exact wpAny_isNot_other rfl (fun z => by cases z) ⟨.bl true, H, I, rfl, by simpa using q⟩
theorem see_none {K : PySem.W.Frag} {L : Addr → Prop} {H : Hp} {d : D} {x : V} (r : SeeR K L H d x) : decide (x = .non) = d.isNon := by
  cases d with
  | non => rw [seeN r]; rfl
  | bl _ => rw [seeB r]; rfl
  | int _ => rw [seeI r]; rfl
  | str _ => rw [seeS r]; rfl
  | tup _ => obtain ⟨a, vs, rfl, _⟩ := seeT r; rfl
  | lst _ => obtain ⟨a, vs, rfl, _⟩ := r; rfl
  | dic _ _ => obtain ⟨a, vs, rfl, _⟩ := r; rfl
  | scr _ => obtain ⟨a, rfl, _⟩ := (by simpa only [SeeR, Rep] using r : ∃ a, x = .ref a ∧ _); rfl
theorem o2_is : Cmp2 X.K opIs (fun x y H Q => (y = .non ∧ Q (.bl (decide (x = .non))) H) ∨ rIs2 x y H Q) := by
  intro Acc ι μ H a b x y e Q S ra rb h q
  cases b <;> simp only [opIs, Option.map_none, reduceCtorEq] at h
  · cases h
    refine .inl ⟨seeN rb, ?_⟩
    rw [see_none ra]
    exact fin_dat S q rep_bl
  · rename_i j
    refine .inr ⟨j, seeB rb, ?_⟩
    cases a <;> simp only [Option.map_none, Option.map_some, reduceCtorEq] at h
    · cases h; rw [seeN ra]; exact ⟨.inr (.inr (.inr rfl)), by simpa using fin_dat S q rep_bl⟩
    · rename_i i
      cases h; rw [seeB ra]; refine ⟨.inl ⟨_, rfl⟩, ?_⟩
      have z : decide (V.bl i = V.bl j) = (i == j) := by rw [Bool.eq_iff_iff]; simp
      rw [z]; exact fin_dat S q rep_bl
    · cases h; rw [seeI ra]; exact ⟨.inr (.inl ⟨_, rfl⟩), by simpa using fin_dat S q rep_bl⟩
    · cases h; rw [seeS ra]; exact ⟨.inr (.inr (.inl ⟨_, rfl⟩)), by simpa using fin_dat S q rep_bl⟩
theorem o2_isnot : Cmp2 X.K (fun a b => (opIs a b).map (!·)) (fun x y H Q => (y = .non ∧ Q (.bl (!decide (x = .non))) H) ∨ rNot2 x y H Q) := by
  intro Acc ι μ H a b x y e Q S ra rb h q
  cases b <;> simp only [opIs, Option.map_none, reduceCtorEq] at h
  · cases h
    refine .inl ⟨seeN rb, ?_⟩
    rw [see_none ra]
    exact fin_dat S q rep_bl
  · rename_i j
    refine .inr ⟨j, seeB rb, ?_⟩
    cases a <;> simp only [Option.map_none, Option.map_some, reduceCtorEq] at h
    · cases h; rw [seeN ra]; exact ⟨.inr (.inr (.inr rfl)), by simpa using fin_dat S q rep_bl⟩
    · rename_i i
      cases h; rw [seeB ra]; refine ⟨.inl ⟨_, rfl⟩, ?_⟩
      have z : decide (V.bl i = V.bl j) = (i == j) := by rw [Bool.eq_iff_iff]; simp
      rw [z]; exact fin_dat S q rep_bl
    · cases h; rw [seeI ra]; exact ⟨.inr (.inl ⟨_, rfl⟩), by simpa using fin_dat S q rep_bl⟩
    · cases h; rw [seeS ra]; exact ⟨.inr (.inr (.inl ⟨_, rfl⟩)), by simpa using fin_dat S q rep_bl⟩
end

/-! ### 2. keys, dicts looked up -/
def D.key : D → Option Key
  | .int i => some (.inl i)
  | .str x => some (.inr x)
  | _ => none
def keyEq (a b : Key) : Bool := match a, b with
  | .inl i, .inl j => i == j
  | .inr x, .inr y => x.cps.toList == y.cps.toList
  | _, _ => false
theorem keyEq_iff {a b : Key} : keyEq a b = true ↔ a = b := by
  cases a with
  | inl i => cases b with
    | inl j => simp [keyEq]
    | inr y => simp [keyEq]
  | inr x => cases b with
    | inl j => simp [keyEq]
    | inr y =>
      show (x.cps.toList == y.cps.toList) = true ↔ _
      rw [← str_beq, beq_iff_eq]
      simp
def dget : List Key → List D → Key → Option D
  | k :: ks, d :: ds, j => if keyEq k j then some d else dget ks ds j
  | _, _, _ => none
def dhas (ks : List Key) (j : Key) : Bool := ks.any fun k => keyEq k j
def dput : List Key → List D → Key → D → List Key × List D
  | k :: ks, d :: ds, j, e => if keyEq k j then (k :: ks, e :: ds) else ((k :: (dput ks ds j e).1), (d :: (dput ks ds j e).2))
  | _, _, j, e => ([j], [e])
section
variable {K : PySem.W.Frag} {L : Addr → Prop} {H : Hp}
theorem key_rep {d : D} {k : Key} {v : V} (h : d.key = some k) (r : SeeR K L H d v) : v = kV k := by
  cases d <;> simp only [D.key, reduceCtorEq] at h
  · cases h; exact seeI r
  · cases h; exact seeS r
theorem val_get : ∀ {ks : List Key} {ds : List D} {vs : List V} {k : Key}, ks.length = ds.length → Reps K L H ds vs → match dget ks ds k with
    | some d => ∃ v, valV (ks.zip vs) k = some v ∧ Rep K L H d v
    | none => valV (ks.zip vs) k = none
  | [], [], vs, k, hl, r => by rw [r.invN]; rfl
  | [], _ :: _, vs, k, hl, r => by cases hl
  | _ :: _, [], vs, k, hl, r => by cases hl
  | a :: ks, d :: ds, vs, k, hl, r => by
    obtain ⟨v, rs, rfl, h1, h2⟩ := r.inv
    rw [List.zip_cons_cons]
    unfold dget
    by_cases e : keyEq a k = true
    · rw [if_pos e]
      exact ⟨v, valV_pos (keyEq_iff.mp e), h1⟩
    · rw [if_neg e, valV_neg (fun z => e (keyEq_iff.mpr z))]
      exact val_get (by simpa using hl) h2
theorem val_has {ks : List Key} {ds : List D} {vs : List V} {k : Key} (hl : ks.length = ds.length) (r : Reps K L H ds vs) : (valV (ks.zip vs) k).isSome = dhas ks k := by
  rw [← valV_any]
  have hv : vs.length = ks.length := by rw [r.len, hl]
  unfold dhas
  have e : ∀ (ks : List Key) (vs : List V), vs.length = ks.length → ((ks.zip vs).any fun kv => decide (kv.1 = k)) = ks.any fun a => keyEq a k := by
    intro ks
    induction ks with
    | nil => intro vs _; rfl
    | cons a ks ih =>
      intro vs hv
      cases vs with
      | nil => cases hv
      | cons v vs =>
        rw [List.zip_cons_cons, List.any_cons, List.any_cons, ih vs (by simpa using hv)]
        congr 1
        rw [Bool.eq_iff_iff, decide_eq_true_iff, keyEq_iff]
  exact e ks vs hv
theorem dput_len : ∀ {ks : List Key} {ds : List D} {k : Key} {d : D}, ks.length = ds.length → (dput ks ds k d).1.length = (dput ks ds k d).2.length
  | [], [], k, d, _ => rfl
  | [], _ :: _, k, d, h => by cases h
  | _ :: _, [], k, d, h => by cases h
  | a :: ks, b :: ds, k, d, h => by
    unfold dput
    by_cases e : keyEq a k = true
    · rw [if_pos e]; simpa using h
    · rw [if_neg e]
      simpa using dput_len (k := k) (d := d) (by simpa using h)
/-- no key twice: what the store of a key does -/
theorem val_put : ∀ {ks : List Key} {ds : List D} {vs : List V} {k : Key} {d : D} {v : V}, ks.Nodup → ks.length = ds.length → Reps K L H ds vs → Rep K L H d v →
    ∃ ws, putK (ks.zip vs) k v = (dput ks ds k d).1.zip ws ∧ Reps K L H (dput ks ds k d).2 ws
  | [], [], vs, k, d, v, _, hl, r, rd => by
    rw [r.invN]
    exact ⟨[v], rfl, Reps.cons rd Reps.nil⟩
  | [], _ :: _, vs, k, d, v, _, hl, r, rd => by cases hl
  | _ :: _, [], vs, k, d, v, _, hl, r, rd => by cases hl
  | a :: ks, b :: ds, vs, k, d, v, nd, hl, r, rd => by
    obtain ⟨w, rs, rfl, h1, h2⟩ := r.inv
    rw [List.zip_cons_cons]
    obtain ⟨na, nks⟩ := List.nodup_cons.mp nd
    unfold dput
    by_cases e : keyEq a k = true
    · rw [if_pos e]
      have e' := keyEq_iff.mp e
      refine ⟨v :: rs, ?_, Reps.cons rd h2⟩
      unfold putK
      have ha : (((a, w) :: ks.zip rs).any fun kv => decide (kv.1 = k)) = true := by rw [List.any_cons, decide_eq_true e']; rfl
      rw [if_pos ha, List.map_cons, if_pos e', List.zip_cons_cons]
      congr 1
      have : ∀ p ∈ ks.zip rs, (if p.1 = k then (p.1, v) else p) = p := fun p hp => by
        rw [if_neg]
        intro z
        refine na ?_
        rw [e', ← z]
        exact (List.of_mem_zip (a := p.1) (b := p.2) hp).1
      calc (ks.zip rs).map _ = (ks.zip rs).map id := List.map_congr_left this
        _ = ks.zip rs := List.map_id _
    · rw [if_neg e]
      have e' : ¬ a = k := fun z => e (keyEq_iff.mpr z)
      obtain ⟨ws, h3, h4⟩ := val_put (k := k) nks (by simpa using hl) h2 rd
      refine ⟨w :: ws, ?_, Reps.cons h1 h4⟩
      show _ = (a, w) :: ((dput ks ds k d).1.zip ws)
      rw [← h3]
      unfold putK
      rw [List.any_cons, decide_eq_false e', Bool.false_or]
      by_cases z : ((ks.zip rs).any fun kv => decide (kv.1 = k)) = true
      · rw [if_pos z, if_pos z, List.map_cons, if_neg e']
      · rw [if_neg z, if_neg z, List.cons_append]
end
def ndK (ks : List Key) : Bool := match ks with
  | [] => true
  | k :: r => !(dhas r k) && ndK r
theorem ndK_ok : ∀ {ks : List Key}, ndK ks = true → ks.Nodup
  | [], _ => List.nodup_nil
  | k :: r, h => by
    unfold ndK at h
    rw [Bool.and_eq_true, Bool.not_eq_true'] at h
    refine List.nodup_cons.mpr ⟨fun hm => ?_, ndK_ok h.2⟩
    have : dhas r k = true := by
      unfold dhas
      rw [List.any_eq_true]
      exact ⟨k, hm, keyEq_iff.mpr rfl⟩
    rw [this] at h
    exact absurd h.1 (by simp)

/-! ### 3. in -/
def sgnIn (x z : Str) : Option Bool := match x.cps.toList with
  | [c] => some (z.cps.toList.contains c)
  | _ => none
def opIn (a b : D) : Option Bool := match b with
  | .str z => match a with
    | .str x => sgnIn x z
    | _ => none
  | .lst ds => if fits 64 a && fitsAll 63 ds then some (ds.any fun d => eqv d a) else none
  | .tup ds => if fits 0 a && fitsAll 0 ds then some (ds.any fun d => eqv d a) else none
  | .dic ks _ => match a.key with
    | some k => some (dhas ks k)
    | none => none
  | _ => none
section
variable {X : Cx}
def rInDic : R2 := fun x y H Q => ∃ a o, y = .ref a ∧ DGet H a x o ∧ Q (.bl o.isSome) H
def rNotInDic : R2 := fun x y H Q => ∃ a o, y = .ref a ∧ DGet H a x o ∧ Q (.bl (!o.isSome)) H
theorem op_inDic (hu : X.A.units + 1 < cLine) : OpR X (compareOp .In) rInDic := by
  intro pins s σ H x y v u Q I rx ry h
  obtain ⟨a, o, rfl, g, q⟩ := h
  cases (show u = Value.ref a from ry)
  exact d_in hu I g rx fun s' I' => ⟨.bl _, H, I', rfl, q⟩
theorem op_notInDic (hu : X.A.units + 1 < cLine) : OpR X (compareOp .NotIn) rNotInDic := by
  intro pins s σ H x y v u Q I rx ry h
  obtain ⟨a, o, rfl, g, q⟩ := h
  cases (show u = Value.ref a from ry)
  exact d_notIn hu I g rx fun s' I' => ⟨.bl _, H, I', rfl, q⟩
def rSgn (neg : Bool) : R2 := fun x y H Q => ∃ (c : Nat) (z : Str), x = .str ⟨#[c]⟩ ∧ y = .str z ∧ Q (.bl (if neg then !decide (c ∈ z.cps.toList) else decide (c ∈ z.cps.toList))) H
def rInAll (K : PySem.W.Frag) : R2 := fun x y H Q => (rSgn false x y H Q ∨ rInD K x y H Q) ∨ (rIn K false x y H Q ∨ rInDic x y H Q)
def rNotInAll (K : PySem.W.Frag) : R2 := fun x y H Q => (rSgn true x y H Q ∨ rNotInD K x y H Q) ∨ (rIn K true x y H Q ∨ rNotInDic x y H Q)
theorem or_in (hu : X.A.units + 65 < cLine) : OpR X (compareOp .In) (rInAll X.K) :=
  OpR.or (OpR.or (fun pins s σ H x y v u Q I rx ry ⟨c, z, e1, e2, q⟩ => op_in_sign pins s σ H x y v u Q I rx ry ⟨c, z, e1, e2, q⟩) (op_inD hu)) (OpR.or op_in_seq (op_inDic (by omega)))
theorem or_notIn (hu : X.A.units + 65 < cLine) : OpR X (compareOp .NotIn) (rNotInAll X.K) :=
  OpR.or (OpR.or (fun pins s σ H x y v u Q I rx ry ⟨c, z, e1, e2, q⟩ => op_notIn_sign pins s σ H x y v u Q I rx ry ⟨c, z, e1, e2, q⟩) (op_notInD hu)) (OpR.or op_notIn_seq (op_notInDic (by omega)))
theorem flat_of {K : PySem.W.Frag} {L : Addr → Prop} {H : Hp} {d : D} {v : V} (h : fits 0 d = true) (r : Rep K L H d v) : flatV v = true := by
  cases d <;> simp [fits] at h <;> (simp only [Rep] at r; subst r; rfl)
theorem flats_of {K : PySem.W.Frag} {L : Addr → Prop} {H : Hp} : ∀ {ds : List D} {vs : List V}, fitsAll 0 ds = true → Reps K L H ds vs → vs.all flatV = true
  | [], vs, _, r => by rw [r.invN]; rfl
  | d :: ds, vs, h, r => by
    obtain ⟨v, rs, rfl, h1, h2⟩ := r.inv
    simp only [fitsAll, Bool.and_eq_true] at h
    rw [List.all_cons, flat_of h.1 h1, flats_of h.2 h2]
    rfl
theorem eqV_eqv {K : PySem.W.Frag} {L : Addr → Prop} {H : Hp} {a b : D} {x y : V} (ha : fits 0 a = true) (hb : fits 0 b = true) (ra : Rep K L H a x) (rb : Rep K L H b y) : eqV x y = eqv a b := by
  cases a <;> simp [fits] at ha <;> simp only [Rep] at ra <;> subst ra <;> cases b <;> simp [fits] at hb <;> simp only [Rep] at rb <;> subst rb <;> simp only [eqV, eqv]
  exact str_beq
theorem any_eqv {K : PySem.W.Frag} {L : Addr → Prop} {H : Hp} {a : D} {x : V} (ha : fits 0 a = true) (ra : Rep K L H a x) : ∀ {ds : List D} {vs : List V}, fitsAll 0 ds = true → Reps K L H ds vs → inV x vs = ds.any fun d => eqv d a
  | [], vs, _, r => by rw [r.invN]; rfl
  | d :: ds, vs, h, r => by
    obtain ⟨v, rs, rfl, h1, h2⟩ := r.inv
    simp only [fitsAll, Bool.and_eq_true] at h
    have := any_eqv ha ra h.2 h2
    unfold inV at this ⊢
    rw [List.any_cons, List.any_cons, this, eqV_eqv h.1 ha h1 ra]
theorem any_py {a : D} (ha : fits 64 a = true) : ∀ {ds : List D}, fitsAll 63 ds = true → ((pys ds).any fun z => PyData.eqv z a.py) = ds.any fun d => eqv d a
  | [], _ => rfl
  | d :: ds, h => by
    simp only [fitsAll, Bool.and_eq_true] at h
    simp only [pys, List.any_cons, any_py ha h.2, eqv_py 63 64 d a h.1 ha]
theorem seeR_rep {K : PySem.W.Frag} {L : Addr → Prop} {H : Hp} {d : D} {v : V} (h : fits 0 d = true) (r : SeeR K L H d v) : Rep K L H d v := by
  cases d <;> simp [fits] at h <;> exact r
theorem sgn_ok {x z : Str} {b : Bool} (h : sgnIn x z = some b) : ∃ c, x = ⟨#[c]⟩ ∧ b = decide (c ∈ z.cps.toList) := by
  unfold sgnIn at h
  split at h
  · rename_i c e
    cases h
    refine ⟨c, ?_, ?_⟩
    · cases x; congr 1; exact Array.toList_inj.mp e
    · rw [Bool.eq_iff_iff]; simp
  · cases h
theorem o2_in : Cmp2 X.K opIn (rInAll X.K) := by
  intro Acc ι μ H a b x y e Q S ra rb h q
  cases b <;> simp only [opIn, Option.map_none, reduceCtorEq] at h
  · rename_i z
    cases a <;> simp only [Option.map_none, reduceCtorEq] at h
    rename_i w
    cases hs : sgnIn w z with
    | none => rw [hs] at h; cases h
    | some k =>
      rw [hs] at h; cases h
      obtain ⟨c, rfl, rfl⟩ := sgn_ok hs
      exact .inl (.inl ⟨c, z, seeS ra, seeS rb, fin_dat S q rep_bl⟩)
  · rename_i ds
    split at h
    · rename_i hf
      cases h
      rw [Bool.and_eq_true] at hf
      obtain ⟨p, vs, rfl, tp, rp⟩ := seeT rb
      have ra' := seeR_rep hf.1 ra
      refine .inr (.inl ⟨p, vs, rfl, .inr tp.sq, flat_of hf.1 ra', flats_of hf.2 rp, ?_⟩)
      show Q (.bl (inV x vs)) H
      rw [any_eqv hf.1 ra' hf.2 rp]
      exact fin_dat S q rep_bl
    · cases h
  · rename_i ds
    split at h
    · rename_i hf
      cases h
      rw [Bool.and_eq_true] at hf
      have fl : fits 64 (.lst ds) = true := by simpa [fits] using hf.2
      refine .inl (.inr ⟨a.py, pys ds, ra.dp hf.1, by simpa only [D.py] using rb.dp fl, fits_shaped hf.1, by simpa only [D.py] using fits_shaped fl, ?_⟩)
      rw [any_py hf.1 hf.2]
      exact fin_dat S q rep_bl
    · cases h
  · rename_i ks ds
    cases hk : a.key with
    | none => rw [hk] at h; cases h
    | some k =>
      rw [hk] at h; cases h
      obtain ⟨p, vs, rfl, tp, hl, rp⟩ := rb
      refine .inr (.inr ⟨p, _, rfl, by rw [key_rep hk ra]; exact DGet.k tp, ?_⟩)
      rw [val_has hl rp]
      exact fin_dat S q rep_bl
theorem o2_notin : Cmp2 X.K (fun a b => (opIn a b).map (!·)) (rNotInAll X.K) := by
  intro Acc ι μ H a b x y e Q S ra rb h q
  cases b <;> simp only [opIn, Option.map_none, reduceCtorEq] at h
  · rename_i z
    cases a <;> simp only [Option.map_none, reduceCtorEq] at h
    rename_i w
    cases hs : sgnIn w z with
    | none => rw [hs] at h; cases h
    | some k =>
      rw [hs] at h; cases h
      obtain ⟨c, rfl, rfl⟩ := sgn_ok hs
      exact .inl (.inl ⟨c, z, seeS ra, seeS rb, fin_dat S q rep_bl⟩)
  · rename_i ds
    split at h
    · rename_i hf
      cases h
      rw [Bool.and_eq_true] at hf
      obtain ⟨p, vs, rfl, tp, rp⟩ := seeT rb
      have ra' := seeR_rep hf.1 ra
      refine .inr (.inl ⟨p, vs, rfl, .inr tp.sq, flat_of hf.1 ra', flats_of hf.2 rp, ?_⟩)
      show Q (.bl (!inV x vs)) H
      rw [any_eqv hf.1 ra' hf.2 rp]
      exact fin_dat S q rep_bl
    · cases h
  · rename_i ds
    split at h
    · rename_i hf
      cases h
      rw [Bool.and_eq_true] at hf
      have fl : fits 64 (.lst ds) = true := by simpa [fits] using hf.2
      refine .inl (.inr ⟨a.py, pys ds, ra.dp hf.1, by simpa only [D.py] using rb.dp fl, fits_shaped hf.1, by simpa only [D.py] using fits_shaped fl, ?_⟩)
      rw [any_py hf.1 hf.2]
      exact fin_dat S q rep_bl
    · cases h
  · rename_i ks ds
    cases hk : a.key with
    | none => rw [hk] at h; cases h
    | some k =>
      rw [hk] at h; cases h
      obtain ⟨p, vs, rfl, tp, hl, rp⟩ := rb
      refine .inr (.inr ⟨p, _, rfl, by rw [key_rep hk ra]; exact DGet.k tp, ?_⟩)
      rw [val_has hl rp]
      exact fin_dat S q rep_bl
end
/-- all comparisons -/
def opCmp (op : CmpOp) (a b : D) : Option Bool := match op with
  | .Eq => opEq a b
  | .NotEq => (opEq a b).map (!·)
  | .Lt => opI (fun i j => decide (i < j)) a b
  | .LtE => opI (fun i j => decide (i ≤ j)) a b
  | .Gt => opI (fun i j => decide (j < i)) a b
  | .GtE => opI (fun i j => decide (j ≤ i)) a b
  | .Is => opIs a b
  | .IsNot => (opIs a b).map (!·)
  | .In => opIn a b
  | .NotIn => (opIn a b).map (!·)
theorem cmp_ok (X : Cx) (hu : X.A.units + 65 < cLine) (op : CmpOp) : ∃ r, OpR X (compareOp op) r ∧ Cmp2 X.K (opCmp op) r := by
  cases op with
  | Eq => exact ⟨_, OpR.or op_eq (op_eqD (by omega)), o2_eq⟩
  | NotEq => exact ⟨_, OpR.or op_ne (op_neD (by omega)), o2_ne⟩
  | Lt => exact ⟨_, op_lt, o2_int⟩
  | LtE => exact ⟨_, op_le, o2_int⟩
  | Gt => exact ⟨_, op_gt, o2_int⟩
  | GtE => exact ⟨_, op_ge, o2_int⟩
  | Is => exact ⟨_, OpR.or op_isN op_is2, o2_is⟩
  | IsNot => exact ⟨_, OpR.or op_notN op_not2, o2_isnot⟩
  | In => exact ⟨_, or_in hu, o2_in⟩
  | NotIn => exact ⟨_, or_notIn hu, o2_notin⟩
end VM
/-! Truth, and/or/not, conditionals, chains; subscripts and slices. -/
namespace VM
open PySem L2 PyProof.Rows

/-! ### 1. truth -/
def tru (d : D) : Option Bool := match d with
  | .non => some false
  | .bl b => some b
  | .int i => some (i != 0)
  | .str x => if x.length ≤ LIM then some ((x.length : Int) != 0) else none
  | .tup ds => some (!ds.isEmpty)
  | .lst ds => some (!ds.isEmpty)
  | .dic ks _ => some (!ks.isEmpty)
  | .scr ns => some (!ns.isEmpty)
theorem tru_ok' {K : PySem.W.Frag} {L : Addr → Prop} {H : Hp} {d : D} {v : V} {k : Bool} (r : SeeR K L H d v) (h : tru d = some k) : TruV K v H k := by
  have emp : ∀ {ds : List D} {vs : List V}, Reps K L H ds vs → (!ds.isEmpty) = !vs.isEmpty := fun {ds vs} r => by
    cases ds with
    | nil => rw [r.invN]; rfl
    | cons d ds => obtain ⟨v, rs, rfl, _⟩ := r.inv; rfl
  cases d with
  | non => cases h; rw [seeN r]; rfl
  | bl b => cases h; rw [seeB r]; rfl
  | int i => cases h; rw [seeI r]; rfl
  | str x =>
    simp only [tru] at h
    split at h
    · rename_i hl
      cases h
      rw [seeS r]
      exact ⟨lim_ok hl, rfl⟩
    · cases h
  | tup ds =>
    cases h
    obtain ⟨a, vs, rfl, t, r⟩ := seeT r
    exact .inr (.inl ⟨vs, t.sq, emp r⟩)
  | lst ds =>
    cases h
    obtain ⟨a, vs, rfl, t, r⟩ := r
    exact .inl ⟨vs, SqL.of t, emp r⟩
  | dic ks ds =>
    cases h
    obtain ⟨a, vs, rfl, t, hl, r⟩ := r
    refine .inr (.inr ⟨_, t, ?_⟩)
    have hv := r.len
    cases ks with
    | nil => rfl
    | cons k ks =>
      cases vs with
      | nil => rw [← hl] at hv; cases hv
      | cons v vs => rfl
  | scr ns =>
    cases h
    obtain ⟨a, rfl, t⟩ := (by simpa only [SeeR, Rep] using r : ∃ a, v = .ref a ∧ LstN K L H a (ns.map V.int))
    refine .inl ⟨_, t.sq, ?_⟩
    cases ns <;> rfl
def truR (a : EV) (μ : Sto) : Res Bool := match a.see μ with
  | some d => match tru d with
    | some k => .ok k μ
    | none => .bad
  | none => .bad
def bTru (f : SE) : SB := fun F ρ μ => (f F ρ μ).bind truR
section
variable {K : PySem.W.Frag} {XC : Nat → Addr} {W : WX} {Acc : Addr → Prop} {ι : List Addr} {μ μ0 : Sto} {H H0 : Hp} {σ : L2.St}
theorem truR_ok {a : EV} {x : V} {Q : Bool → Hp → Prop} (t : Stp K Acc ι μ0 H0 ι μ H) (ra : EvR K (Liv Acc μ ι) ι H0 H a x) (h : wp relB K XC W Acc ι μ0 H0 σ (truR a μ) Q) : ∃ k, TruV K x H k ∧ Q k H := by
  unfold truR at h
  cases ea : a.see μ with
  | none => rw [ea] at h; exact h.elim
  | some d =>
    rw [ea] at h
    simp only at h
    cases et : tru d with
    | none => rw [et] at h; exact h.elim
    | some k =>
      rw [et] at h
      exact ⟨k, tru_ok' (see_ok t.sim ra ea) et, h k H t rfl⟩
end
section
variable {X : Cx} {XC : Nat → Addr} {F : Fns} {W : WX} {a b c : Expr} {rest : List Expr} {fa fb fc : SE} {ga gb gc : SB} {pos : Pos}
theorem ct_tru (ha : PE X a (rdE X.K XC F W fa)) (he : ∀ whole, isTrue a X.env whole = (do let v ← whole; standAt a.pos; holding [v] (truthy v))) : PT X a (rdB X.K XC F W (bTru fa)) :=
  PTimp (pt_truth ha he) fun σ H Q ⟨Acc, ι, ρ, μ, S, E, h⟩ => by
    refine rd.bind (.refl S) E h fun v μ1 x H1 _ t1 r1 h1 => ?_
    exact truR_ok t1 r1.1 h1
def bNot (g : SB) : SB := fun F ρ μ => (g F ρ μ).bind fun k μ1 => .ok (!k) μ1
theorem ct_not (ha : PT X a (rdB X.K XC F W ga)) : PT X (.UnaryOp .Not a pos) (rdB X.K XC F W (bNot ga)) :=
  PTimp (pt_not ha) fun σ H Q ⟨Acc, ι, ρ, μ, S, E, h⟩ => by
    refine rd.bind (.refl S) E h fun v μ1 x H1 _ t1 r1 h1 => ?_
    have e : x = v := r1
    subst e
    exact h1 _ H1 t1 rfl
def bAnd (f g : SB) : SB := fun F ρ μ => (f F ρ μ).bind fun k μ1 => match k with
  | true => g F ρ μ1
  | false => .ok false μ1
def bOr (f g : SB) : SB := fun F ρ μ => (f F ρ μ).bind fun k μ1 => match k with
  | true => .ok true μ1
  | false => g F ρ μ1
theorem cw_and1 (ha : PT X a (rdB X.K XC F W ga)) : PW X (.BoolOp .And [a] pos) (rdB X.K XC F W ga) := pw_and1 ha
theorem cw_or1 (ha : PT X a (rdB X.K XC F W ga)) : PW X (.BoolOp .Or [a] pos) (rdB X.K XC F W ga) := pw_or1 ha
theorem cw_and (ha : PT X a (rdB X.K XC F W ga)) (hb : PW X (.BoolOp .And (b :: rest) pos) (rdB X.K XC F W gb)) : PW X (.BoolOp .And (a :: b :: rest) pos) (rdB X.K XC F W (bAnd ga gb)) :=
  PWimp (pw_and ha hb) fun σ H Q ⟨Acc, ι, ρ, μ, S, E, h⟩ => by
    refine rd.bind (.refl S) E h fun k μ1 x H1 _ t1 r1 h1 => ?_
    have e : x = k := r1
    subst e
    cases x with
    | true => exact rd.last t1 (E.mv t1 S) h1
    | false => exact h1 false H1 t1 rfl
theorem cw_or (ha : PT X a (rdB X.K XC F W ga)) (hb : PW X (.BoolOp .Or (b :: rest) pos) (rdB X.K XC F W gb)) : PW X (.BoolOp .Or (a :: b :: rest) pos) (rdB X.K XC F W (bOr ga gb)) :=
  PWimp (pw_or ha hb) fun σ H Q ⟨Acc, ι, ρ, μ, S, E, h⟩ => by
    refine rd.bind (.refl S) E h fun k μ1 x H1 _ t1 r1 h1 => ?_
    have e : x = k := r1
    subst e
    cases x with
    | true => exact h1 true H1 t1 rfl
    | false => exact rd.last t1 (E.mv t1 S) h1
/-! ### 2. and, or, not as values; a if t else b -/
def eAnd (f g : SE) : SE := fun F ρ μ => (f F ρ μ).bind fun v μ1 => (truR v μ1).bind fun k μ2 => match k with
  | true => g F ρ μ2
  | false => .ok v μ2
def eOr (f g : SE) : SE := fun F ρ μ => (f F ρ μ).bind fun v μ1 => (truR v μ1).bind fun k μ2 => match k with
  | true => .ok v μ2
  | false => g F ρ μ2
theorem truR_bind {γ δ : Type} {K : PySem.W.Frag} {Rel2 : (Addr → Prop) → Sto → List Addr → Hp → Hp → γ → δ → Prop} {Acc : Addr → Prop} {ι : List Addr} {μ μ0 : Sto} {H H0 : Hp} {σ : L2.St} {v : EV} {x : V} {g : Bool → Sto → Res γ} {Q : δ → Hp → Prop} (t : Stp K Acc ι μ0 H0 ι μ H) (ra : EvR K (Liv Acc μ ι) ι H0 H v x)
    (h : wp Rel2 K XC W Acc ι μ0 H0 σ ((truR v μ).bind g) Q) : ∃ k, TruV K x H k ∧ wp Rel2 K XC W Acc ι μ0 H0 σ (g k μ) Q := by
  cases ea : v.see μ with
  | none => simp only [truR, ea, Res.bind] at h; exact h.elim
  | some d =>
    cases et : tru d with
    | none => simp only [truR, ea, et, Res.bind] at h; exact h.elim
    | some k =>
      simp only [truR, ea, et, Res.bind] at h
      exact ⟨k, tru_ok' (see_ok t.sim ra ea) et, h⟩
theorem c_and (ha : PE X a (rdE X.K XC F W fa)) (hb : PE X (.BoolOp .And (b :: rest) pos) (rdE X.K XC F W fb)) : PE X (.BoolOp .And (a :: b :: rest) pos) (rdE X.K XC F W (eAnd fa fb)) :=
  PEimp (pe_andT ha hb) fun σ H Q ⟨Acc, ι, ρ, μ, S, E, h⟩ => by
    refine rd.bind (.refl S) E h fun v μ1 x H1 _ t1 r1 h1 => ?_
    obtain ⟨k, e, h2⟩ := truR_bind t1 r1.1 h1
    refine ⟨k, e, ?_⟩
    cases k with
    | true => exact rd.last t1 (E.mv t1 S) h2
    | false => exact h2 x H1 t1 r1
theorem c_or (ha : PE X a (rdE X.K XC F W fa)) (hb : PE X (.BoolOp .Or (b :: rest) pos) (rdE X.K XC F W fb)) : PE X (.BoolOp .Or (a :: b :: rest) pos) (rdE X.K XC F W (eOr fa fb)) :=
  PEimp (pe_orT ha hb) fun σ H Q ⟨Acc, ι, ρ, μ, S, E, h⟩ => by
    refine rd.bind (.refl S) E h fun v μ1 x H1 _ t1 r1 h1 => ?_
    obtain ⟨k, e, h2⟩ := truR_bind t1 r1.1 h1
    refine ⟨k, e, ?_⟩
    cases k with
    | true => exact h2 x H1 t1 r1
    | false => exact rd.last t1 (E.mv t1 S) h2
def eNot (f : SE) : SE := fun F ρ μ => (f F ρ μ).bind fun v μ1 => (truR v μ1).bind fun k μ2 => .ok (.dat (.bl (!k))) μ2
theorem c_not (ha : PE X a (rdE X.K XC F W fa)) : PE X (.UnaryOp .Not a pos) (rdE X.K XC F W (eNot fa)) :=
  PEimp (pe_notT ha) fun σ H Q ⟨Acc, ι, ρ, μ, S, E, h⟩ => by
    refine rd.bind (.refl S) E h fun v μ1 x H1 _ t1 r1 h1 => ?_
    obtain ⟨k, e, h2⟩ := truR_bind t1 r1.1 h1
    exact ⟨k, e, h2 (.bl (!k)) H1 t1 ⟨rfl, trivial⟩⟩
def eNeg (f : SE) : SE := fun F ρ μ => (f F ρ μ).bind fun v μ1 => match v with
  | .dat (.int i) => .ok (.dat (.int (-i))) μ1
  | _ => .bad
theorem c_neg (ha : PE X a (rdE X.K XC F W fa)) : PE X (.UnaryOp .USub a pos) (rdE X.K XC F W (eNeg fa)) :=
  PEimp (pe_un un_neg ha) fun σ H Q ⟨Acc, ι, ρ, μ, S, E, h⟩ => by
    refine rd.bind (.refl S) E h fun v μ1 x H1 _ t1 r1 h1 => ?_
    split at h1
    · rename_i i _
      have e : x = .int i := r1.1
      subst e
      exact ⟨i, rfl, h1 (.int (-i)) H1 t1 ⟨rfl, trivial⟩⟩
    · exact h1.elim
def eIf (t : SB) (f g : SE) : SE := fun F ρ μ => (t F ρ μ).bind fun k μ1 => match k with
  | true => f F ρ μ1
  | false => g F ρ μ1
theorem c_if (ht : PT X c (rdB X.K XC F W gc)) (ha : PE X a (rdE X.K XC F W fa)) (hb : PE X b (rdE X.K XC F W fb)) : PE X (.IfExp c a b pos) (rdE X.K XC F W (eIf gc fa fb)) :=
  PEimp (pe_ifExp ht ha hb) fun σ H Q ⟨Acc, ι, ρ, μ, S, E, h⟩ => by
    refine rd.bind (.refl S) E h fun k μ1 x H1 _ t1 r1 h1 => ?_
    have e : x = k := r1
    subst e
    cases x with
    | true => exact rd.last t1 (E.mv t1 S) h1
    | false => exact rd.last t1 (E.mv t1 S) h1
def bIf (t f g : SB) : SB := fun F ρ μ => (t F ρ μ).bind fun k μ1 => match k with
  | true => f F ρ μ1
  | false => g F ρ μ1
theorem ct_if (ht : PT X c (rdB X.K XC F W gc)) (ha : PT X a (rdB X.K XC F W ga)) (hb : PT X b (rdB X.K XC F W gb)) : PT X (.IfExp c a b pos) (rdB X.K XC F W (bIf gc ga gb)) := by
  refine ⟨fun pins s σ H Q I ⟨Acc, ι, ρ, μ, S, E, h⟩ => ?_⟩
  have h' : rdB X.K XC F W gc σ H fun k H1 => if k = true then rdB X.K XC F W ga σ H1 Q else rdB X.K XC F W gb σ H1 Q := by
    refine rd.bind (.refl S) E h fun k μ1 x H1 _ t1 r1 h1 => ?_
    have e : x = k := r1
    subst e
    cases x with
    | true => exact rd.last t1 (E.mv t1 S) h1
    | false => exact rd.last t1 (E.mv t1 S) h1
  refine PyProof.Rows.isTrue_IfExp (thn (ht.run pins s σ H _ I h') fun d s1 ⟨H1, I1, q1⟩ => ?_)
  cases d with
  | true => exact ha.run pins s1 σ H1 Q I1 q1
  | false => exact hb.run pins s1 σ H1 Q I1 q1
end

/-! ### 3. a op b op' c -/
def eChain (f g : D → D → Option Bool) (fa fb fc : SE) : SE := fun F ρ μ => (fa F ρ μ).bind fun a μ1 => (fb F ρ μ1).bind fun b μ2 => (lift2B f a b μ2).bind fun k μ3 => match k with
  | true => (fc F ρ μ3).bind fun c μ4 => lift2 (fun x y => (g x y).map fun k => .dat (.bl k)) b c μ4
  | false => .ok (.dat (.bl false)) μ3
def bChain (f g : D → D → Option Bool) (fa fb fc : SE) : SB := fun F ρ μ => (fa F ρ μ).bind fun a μ1 => (fb F ρ μ1).bind fun b μ2 => (lift2B f a b μ2).bind fun k μ3 => match k with
  | true => (fc F ρ μ3).bind fun c μ4 => lift2B g b c μ4
  | false => .ok false μ3
section
variable {K : PySem.W.Frag} {XC : Nat → Addr} {W : WX} {Acc : Addr → Prop} {ι : List Addr} {μ μ0 : Sto} {H H0 : Hp} {σ : L2.St}
theorem lift2B_bind {γ δ : Type} {Rel2 : (Addr → Prop) → Sto → List Addr → Hp → Hp → γ → δ → Prop} {f : D → D → Option Bool} {r : R2} {a b : EV} {x y : V} {g : Bool → Sto → Res γ} {Q : δ → Hp → Prop} {P : V → Hp → Prop} (ho : Cmp2 K f r) (t : Stp K Acc ι μ0 H0 ι μ H)
    (ra : EvR K (Liv Acc μ ι) ι H0 H a x) (rb : EvR K (Liv Acc μ ι) ι H0 H b y) (h : wp Rel2 K XC W Acc ι μ0 H0 σ ((lift2B f a b μ).bind g) Q)
    (k : ∀ c H', Stp K Acc ι μ H ι μ H' → wp Rel2 K XC W Acc ι μ0 H0 σ (g c μ) Q → P (.bl c) H') : r x y H P := by
  cases ea : a.see μ with
  | none => simp only [lift2B, ea, Res.bind] at h; exact h.elim
  | some da =>
    cases eb : b.see μ with
    | none => simp only [lift2B, ea, eb, Res.bind] at h; exact h.elim
    | some db =>
      cases ef : f da db with
      | none => simp only [lift2B, ea, eb, ef, Res.bind] at h; exact h.elim
      | some e =>
        simp only [lift2B, ea, eb, ef, Res.bind] at h
        exact ho Acc ι μ H da db x y (.dat (.bl e)) _ t.sim (see_ok t.sim ra ea) (see_ok t.sim rb eb) (by show Option.map _ (f da db) = _; rw [ef]; rfl) fun v H' t' rv => by
          have e' : v = .bl e := rv.1
          subst e'
          exact k e H' t' h
end
section
variable {X : Cx} {XC : Nat → Addr} {F : Fns} {W : WX} {a b c : Expr} {fa fb fc : SE} {pos : Pos} {op op' : CmpOp} {f g : D → D → Option Bool} {r r' : R2}
theorem c_chain (hr : OpR X (compareOp op) r) (ho : Cmp2 X.K f r) (hr' : OpR X (compareOp op') r') (ho' : Cmp2 X.K g r') (ha : PE X a (rdE X.K XC F W fa)) (hb : PE X b (rdE X.K XC F W fb)) (hc : PE X c (rdE X.K XC F W fc)) (hm : lastMarks [op, op'] [b, c] = false) :
    PE X (.Compare a [op, op'] [b, c] pos) (rdE X.K XC F W (eChain f g fa fb fc)) :=
  PEimp (pe_chain hr hr' ha hb hc hm) fun σ H Q ⟨Acc, ι, ρ, μ, S, E, h⟩ => by
    refine rd.bind (.refl S) E h fun va μ1 x H1 _ t1 r1 h1 => ?_
    refine rd.bind t1 (E.mv t1 S) h1 fun vb μ2 y H2 _ t2 r2 h2 => ?_
    refine lift2B_bind ho (t1.trans t2) (EvR.mv t1 S t2 r1.1 rfl) (EvR.back t1 r2.1) h2 fun k H3 t3 h3 => ⟨k, rfl, ?_⟩
    have t03 := (t1.trans t2).trans t3
    cases k with
    | false => exact h3 (.bl false) H3 t03 ⟨rfl, trivial⟩
    | true =>
      refine rd.bind t03 (E.mv t03 S) h3 fun vc μ4 z H4 _ t4 r4 h4 => ?_
      exact lift2_ok ho' S (t03.trans t4) (EvR.back t1 (EvR.mv t2 t1.sim (t3.trans t4) r2.1 rfl)) (EvR.back t03 r4.1) h4
theorem ct_chain (hr : OpR X (compareOp op) r) (ho : Cmp2 X.K f r) (hr' : OpR X (compareOp op') r') (ho' : Cmp2 X.K g r') (ha : PE X a (rdE X.K XC F W fa)) (hb : PE X b (rdE X.K XC F W fb)) (hc : PE X c (rdE X.K XC F W fc)) (hm : lastMarks [op, op'] [b, c] = false) :
    PT X (.Compare a [op, op'] [b, c] pos) (rdB X.K XC F W (bChain f g fa fb fc)) :=
  PTimp (pt_chain hr hr' ha hb hc hm) fun σ H Q ⟨Acc, ι, ρ, μ, S, E, h⟩ => by
    refine rd.bind (.refl S) E h fun va μ1 x H1 _ t1 r1 h1 => ?_
    refine rd.bind t1 (E.mv t1 S) h1 fun vb μ2 y H2 _ t2 r2 h2 => ?_
    refine lift2B_bind ho (t1.trans t2) (EvR.mv t1 S t2 r1.1 rfl) (EvR.back t1 r2.1) h2 fun k H3 t3 h3 => ⟨k, rfl, ?_⟩
    have t03 := (t1.trans t2).trans t3
    cases k with
    | false => exact ⟨false, rfl, h3 false H3 t03 rfl⟩
    | true =>
      refine rd.bind t03 (E.mv t03 S) h3 fun vc μ4 z H4 _ t4 r4 h4 => ?_
      exact lift2B_ok ho' S (t03.trans t4) (EvR.back t1 (EvR.mv t2 t1.sim (t3.trans t4) r2.1 rfl)) (EvR.back t03 r4.1) h4
end

/-! ### 4. subscripts -/
def opIx (a b : D) : Option EV := match a, b with
  | .lst ds, .int i => (atI ds i).map .dat
  | .tup ds, .int i => (atI ds i).map .dat
  | .str x, .int i => if x.length ≤ LIM then (atI x.cps.toList i).map fun c => .dat (.str ⟨#[c]⟩) else none
  | .scr ns, .int i => (atI ns i).map fun n => .dat (.int n)
  | .dic ks ds, b => match b.key with
    | some k => (dget ks ds k).map .dat
    | none => none
  | _, _ => none
section
variable {K : PySem.W.Frag} {L : Addr → Prop} {H : Hp}
theorem Reps.atI {ds : List D} {vs : List V} {i : Int} {d : D} (r : Reps K L H ds vs) (h : L2.atI ds i = some d) : ∃ v, L2.atI vs i = some v ∧ Rep K L H d v := by
  unfold L2.atI at h ⊢
  rw [r.len]
  cases e : ixN ds.length i with
  | none => rw [e] at h; cases h
  | some j =>
    rw [e] at h
    exact r.get h
theorem atI_map {α β : Type} {f : α → β} {xs : List α} {i : Int} {a : α} (h : L2.atI xs i = some a) : L2.atI (xs.map f) i = some (f a) := by
  unfold L2.atI at h ⊢
  rw [List.length_map]
  cases e : ixN xs.length i with
  | none => rw [e] at h; cases h
  | some j =>
    rw [e] at h
    show (xs.map f)[j]? = _
    rw [List.getElem?_map, (show xs[j]? = some a from h)] <;> rfl
end
def rIxD : R2 := fun x y H Q => ∃ a v, x = .ref a ∧ DGet H a y (some v) ∧ Q v H
section
variable {X : Cx}
theorem ix_dic (hu : X.A.units + 1 < cLine) : IxR X rIxD := by
  intro value slice pins s σ H x y v u Q I rx ry h hs
  obtain ⟨a, w', rfl, g, q⟩ := h
  cases (show v = Value.ref a from rx)
  exact tail_any (dict_typeIs I g) PySem.F.slot_dict_getitem.lookup (d_getItem hu I g ry fun w2 s' I' rw' => ⟨w', H, I', rw', q⟩) hs
theorem or_ix (hu : X.A.units + 1 < cLine) : IxR X (fun x y H Q => rIx X.K x y H Q ∨ rIxD x y H Q) := IxR.or ix_seq (ix_dic hu)
theorem o2_ix : Op2 X.K opIx (fun x y H Q => rIx X.K x y H Q ∨ rIxD x y H Q) := by
  intro Acc ι μ H a b x y e Q S ra rb h q
  cases a <;> simp only [opIx, reduceCtorEq] at h
  · rename_i z
    cases b <;> simp only [reduceCtorEq] at h
    rename_i i
    split at h
    · rename_i hl
      cases hc : atI z.cps.toList i with
      | none => rw [hc] at h; cases h
      | some c =>
        rw [hc] at h; cases h
        exact .inl (.inr (.inr ⟨z, i, c, seeS ra, seeI rb, lim_ok hl, hc, fin_dat S q rep_str⟩))
    · cases h
  · rename_i ds
    cases b <;> simp only [reduceCtorEq] at h
    rename_i i
    obtain ⟨p, vs, rfl, tp, rp⟩ := seeT ra
    cases hc : atI ds i with
    | none => rw [hc] at h; cases h
    | some c =>
      rw [hc] at h; cases h
      obtain ⟨v, e1, rv⟩ := rp.atI hc
      exact .inl (.inr (.inl ⟨p, vs, i, v, rfl, seeI rb, tp.sq, e1, fin_dat S q rv⟩))
  · rename_i ds
    cases b <;> simp only [reduceCtorEq] at h
    rename_i i
    obtain ⟨p, vs, rfl, tp, rp⟩ := seeL ra
    cases hc : atI ds i with
    | none => rw [hc] at h; cases h
    | some c =>
      rw [hc] at h; cases h
      obtain ⟨v, e1, rv⟩ := rp.atI hc
      exact .inl (.inl ⟨p, vs, i, v, rfl, seeI rb, SqL.of tp, e1, fin_dat S q rv⟩)
  · rename_i ks ds
    cases hk : b.key with
    | none => rw [hk] at h; cases h
    | some k =>
      rw [hk] at h
      simp only at h
      obtain ⟨p, vs, rfl, tp, hl, rp⟩ := ra
      have hg := val_get (k := k) hl rp
      cases hd : dget ks ds k with
      | none => rw [hd] at h; cases h
      | some d =>
        rw [hd] at h hg; cases h
        obtain ⟨v, e1, rv⟩ := hg
        exact .inr ⟨p, v, rfl, by rw [key_rep hk rb, ← e1]; exact DGet.k tp, fin_dat S q rv⟩
  · rename_i ns
    cases b <;> simp only [reduceCtorEq] at h
    rename_i i
    obtain ⟨p, rfl, tp⟩ := (by simpa only [SeeR, Rep] using ra : ∃ a, x = .ref a ∧ LstN X.K (Liv Acc μ ι) H a (ns.map V.int))
    cases hc : atI ns i with
    | none => rw [hc] at h; cases h
    | some c =>
      rw [hc] at h; cases h
      exact .inl (.inl ⟨p, _, i, .int c, rfl, seeI rb, tp.sq, atI_map hc, fin_dat S q rep_int⟩)
end
def eIx (f g : SE) : SE := fun F ρ μ => (f F ρ μ).bind fun a μ1 => (g F ρ μ1).bind fun b μ2 => lift2 opIx a b μ2
section
variable {X : Cx} {XC : Nat → Addr} {F : Fns} {W : WX} {a b : Expr} {fa fb : SE} {pos : Pos}
theorem c_ix (hu : X.A.units + 1 < cLine) (ha : PE X a (rdE X.K XC F W fa)) (hb : PE X b (rdE X.K XC F W fb)) (hs : PlainIx b) : PE X (.Subscript a b pos) (rdE X.K XC F W (eIx fa fb)) :=
  PEimp (pe_ix (or_ix hu) ha hb hs) fun _ _ _ h => two_ok o2_ix h
end

/-! ### 5. slices -/
def cutD (ds : List D) (lo hi : Option Int) : List D := (ds.drop (HT.sIx ds.length 0 lo)).take (HT.sIx ds.length ds.length hi - HT.sIx ds.length 0 lo)
def opSl (a : D) (lo hi : Option Int) : Option EV := match a with
  | .lst ds => some (.new (.lst (cutD ds lo hi)))
  | .tup ds => some (.dat (.tup (cutD ds lo hi)))
  | .str z => if z.length ≤ LIM then some (.dat (.str (cutS z lo hi))) else none
  | _ => none
theorem Reps.cut {K : PySem.W.Frag} {L : Addr → Prop} {H : Hp} {ds : List D} {vs : List V} (r : Reps K L H ds vs) (lo hi : Option Int) : Reps K L H (cutD ds lo hi) (cutV vs lo hi) := by
  unfold cutD cutV
  rw [r.len]
  exact (r.drop _).take _
def oNone : SOp := fun _ _ μ => .ok none μ
def oSome (f : SE) : SOp := fun F ρ μ => (f F ρ μ).bind fun v μ1 => match v with
  | .dat (.int i) => .ok (some i) μ1
  | _ => .bad
def slR (lo hi : Option Int) (a : EV) (μ : Sto) : Res EV := match a.see μ with
  | some d => match opSl d lo hi with
    | some e => .ok e μ
    | none => .bad
  | none => .bad
def eSl (f : SE) (l h : SOp) : SE := fun F ρ μ => (f F ρ μ).bind fun a μ1 => (l F ρ μ1).bind fun lo μ2 => (h F ρ μ2).bind fun hi μ3 => slR lo hi a μ3
section
variable {X : Cx} {XC : Nat → Addr} {F : Fns} {W : WX} {a e : Expr} {lo hi : Option Expr} {fa : SE} {fl fh : SOp} {pos p2 : Pos}
theorem POimp {e : Option Expr} {t t' : TO} (h : PO X e t) (i : ∀ σ H Q, t' σ H Q → t σ H Q) : PO X e t' := ⟨fun pins s σ H Q I q => h.run pins s σ H Q I (i σ H Q q)⟩
theorem co_none : PO X none (rdO X.K XC F W oNone) := POimp po_none fun σ H Q ⟨Acc, ι, ρ, μ, S, E, h⟩ => h none H (.refl S) rfl
theorem co_some (he : PE X e (rdE X.K XC F W fa)) : PO X (some e) (rdO X.K XC F W (oSome fa)) := POimp (po_some he) fun σ H Q ⟨Acc, ι, ρ, μ, S, E, h⟩ => by
  refine rd.bind (.refl S) E h fun v μ1 x H1 _ t1 r1 h1 => ?_
  split at h1
  · rename_i i _
    exact ⟨i, r1.1, h1 (some i) H1 t1 rfl⟩
  · exact h1.elim
def rSlAll (K : PySem.W.Frag) : V → Option Int → Option Int → Hp → VK → Prop := fun x lo hi H Q => (rSlL K x lo hi H Q ∨ rSlA K x lo hi H Q) ∨ rSlS x lo hi H Q
theorem or_sl : SlR X (rSlAll X.K) := SlR.or (SlR.or sl_list sl_tupA) sl_str
theorem slR_ok {K : PySem.W.Frag} {Acc : Addr → Prop} {ι : List Addr} {μ μ0 : Sto} {H H0 : Hp} {σ : L2.St} {v : EV} {x : V} {lo hi : Option Int} {Q : VK} (t : Stp K Acc ι μ0 H0 ι μ H) (ra : EvR K (Liv Acc μ ι) ι H0 H v x)
    (h : wp (relE K) K XC W Acc ι μ0 H0 σ (slR lo hi v μ) Q) : rSlAll K x lo hi H Q := by
  unfold slR at h
  cases ea : v.see μ with
  | none => rw [ea] at h; exact h.elim
  | some d =>
    rw [ea] at h
    simp only at h
    have r := see_ok t.sim ra ea
    cases d <;> simp only [opSl] at h
    · exact h.elim
    · exact h.elim
    · exact h.elim
    · rename_i z
      by_cases hl : z.length ≤ LIM
      · rw [if_pos hl] at h
        exact .inr ⟨z, seeS r, lim_ok hl, h (.str (cutS z lo hi)) H t ⟨rfl, trivial⟩⟩
      · rw [if_neg hl] at h; exact h.elim
    · rename_i ds
      obtain ⟨p, vs, rfl, tp, rp⟩ := seeT r
      refine .inl (.inr ⟨p, vs, rfl, tp.sq, fun e => ?_, fun _ p2 n => h (.ref p2) _ (t.trans (t.sim.up n _)) ⟨t.sim.newT n (rp.cut lo hi), trivial⟩⟩)
      refine h (.ref p) H t ⟨?_, trivial⟩
      have ec : cutD ds lo hi = ds := by
        unfold cutD
        rw [← rp.len, e.1, e.2, List.drop_zero, Nat.sub_zero, rp.len, List.take_length]
      show Rep K _ H (.tup (cutD ds lo hi)) (.ref p)
      rw [ec]
      simp only [Rep]
      exact ⟨p, vs, rfl, tp, rp⟩
    · rename_i ds
      obtain ⟨p, vs, rfl, tp, rp⟩ := r
      exact .inl (.inl ⟨p, vs, rfl, SqL.of tp, fun p2 n => h (.ref p2) _ (t.trans (t.sim.up n _)) ⟨⟨p2, rfl, t.back n, t.sim.newL n (rp.cut lo hi)⟩, t.sim.ownN n (rp.cut lo hi)⟩⟩)
    · exact h.elim
    · exact h.elim
theorem c_sl (ha : PE X a (rdE X.K XC F W fa)) (hl : PO X lo (rdO X.K XC F W fl)) (hh : PO X hi (rdO X.K XC F W fh)) : PE X (.Subscript a (.Slice lo hi none p2) pos) (rdE X.K XC F W (eSl fa fl fh)) :=
  PEimp (pe_slice or_sl ha hl hh) fun σ H Q ⟨Acc, ι, ρ, μ, S, E, h⟩ => by
    refine rd.bind (.refl S) E h fun v μ1 x H1 _ t1 r1 h1 => ?_
    refine rd.bind t1 (E.mv t1 S) h1 fun l μ2 y H2 _ t2 r2 h2 => ?_
    have t02 := t1.trans t2
    refine rd.bind t02 (E.mv t02 S) h2 fun u μ3 z H3 _ t3 r3 h3 => ?_
    have e1 : y = l := r2
    have e2 : z = u := r3
    subst e1 e2
    exact slR_ok (t02.trans t3) (EvR.mv t1 S (t2.trans t3) r1.1 rfl) h3
end
end VM
/-! Calls of built-ins. -/
namespace VM
open PySem L2 PyProof.Rows

/-! ### 1. the general form -/
def sees : List EV → Sto → Option (List D)
  | [], _ => some []
  | v :: vs, μ => match v.see μ, sees vs μ with
    | some d, some ds => some (d :: ds)
    | _, _ => none
def SeesR (K : PySem.W.Frag) (L : Addr → Prop) (H : Hp) : List D → List V → Prop
  | [], vs => vs = []
  | d :: ds, vs => ∃ v r, vs = v :: r ∧ SeeR K L H d v ∧ SeesR K L H ds r
theorem sees_ok {K : PySem.W.Frag} {Acc : Addr → Prop} {ι : List Addr} {μ : Sto} {H H0 : Hp} (S : Sim K Acc μ ι H) : ∀ {es : List EV} {ds : List D} {vs : List V}, EvsR K (Liv Acc μ ι) ι H0 H es vs → sees es μ = some ds → SeesR K (Liv Acc μ ι) H ds vs
  | [], ds, vs, r, h => by cases h; exact r
  | e :: es, ds, vs, r, h => by
    obtain ⟨v, rs, rfl, h1, h2⟩ := r
    simp only [sees] at h
    cases ea : e.see μ with
    | none => rw [ea] at h; simp at h
    | some d =>
      cases eb : sees es μ with
      | none => rw [ea, eb] at h; simp at h
      | some ds' =>
        rw [ea, eb] at h
        simp only at h
        cases h
        exact ⟨v, rs, rfl, see_ok S h1 ea, sees_ok S h2 eb⟩
def liftN (f : List D → Option EV) (vs : List EV) (μ : Sto) : Res EV := match sees vs μ with
  | some ds => match f ds with
    | some e => .ok e μ
    | none => .bad
  | none => .bad
def eCb (f : List D → Option EV) (fa : SA) : SE := fun F ρ μ => (fa F ρ μ).bind fun vs μ1 => liftN f vs μ1
/-- what a call on values must give -/
def OpN (K : PySem.W.Frag) (f : List D → Option EV) (r : List V → Hp → VK → Prop) : Prop :=
  ∀ (Acc : Addr → Prop) (ι : List Addr) (μ : Sto) (H : Hp) (ds : List D) (xs : List V) (e : EV) (Q : VK), Sim K Acc μ ι H → SeesR K (Liv Acc μ ι) H ds xs → f ds = some e →
    (∀ v H', Stp K Acc ι μ H ι μ H' → relE K Acc μ ι H H' e v → Q v H') → r xs H Q
section
variable {X : Cx} {XC : Nat → Addr} {F : Fns} {W : WX} {x : Str} {p pos : Pos} {e : Expr} {es : List Expr} {fa : SA} {id T : String} {f : List D → Option EV} {r : List V → Hp → VK → Prop}
theorem liftN_ok {K : PySem.W.Frag} {Acc : Addr → Prop} {ι : List Addr} {μ μ0 : Sto} {H H0 : Hp} {σ : L2.St} {vs : List EV} {xs : List V} {Q : VK} (ho : OpN K f r) (t : Stp K Acc ι μ0 H0 ι μ H) (ra : EvsR K (Liv Acc μ ι) ι H0 H vs xs)
    (h : wp (relE K) K XC W Acc ι μ0 H0 σ (liftN f vs μ) Q) : r xs H Q := by
  unfold liftN at h
  cases ea : sees vs μ with
  | none => rw [ea] at h; exact h.elim
  | some ds =>
    rw [ea] at h
    simp only at h
    cases ef : f ds with
    | none => rw [ef] at h; exact h.elim
    | some e =>
      rw [ef] at h
      exact ho Acc ι μ H ds xs e Q t.sim (sees_ok t.sim ra ea) ef fun v H' t' rv => h v H' (t.trans t') ⟨EvR.back t rv.1, rv.2⟩
theorem callN_ok {K : PySem.W.Frag} {σ : L2.St} {H : Hp} {Q : VK} (ho : OpN K f r) (h : rdE K XC F W (eCb f fa) σ H Q) : tCB r (rdA K XC F W fa) σ H Q := by
  obtain ⟨Acc, ι, ρ, μ, S, E, h⟩ := h
  refine rd.bind (.refl S) E h fun vs μ1 xs H1 _ t1 r1 h1 => ?_
  exact liftN_ok ho t1 r1 h1
theorem c_callB (hc : CallR X (.builtin id) r) (ho : OpN X.K f r) (hg : Gl X x) (hm : X.mg x = none) (hv : bootBuiltins x = some (.builtin id)) (ha : PA X (e :: es) (rdA X.K XC F W fa)) (hn : x ≠ "__name__") (hdb : (x == ("__debug__" : Str)) = false)
    (he : starEach (e :: es) X.env = (false, eval e X.env) :: starEach es X.env) (hpl : (backTo pos (starEach es X.env)).any (·.1) = false) : PE X (.Call (.Name x p) (e :: es) [] pos) (rdE X.K XC F W (eCb f fa)) :=
  PEimp (pe_callB hc hg hm hv ha hn hdb he hpl) fun _ _ _ h => callN_ok ho h
theorem c_callTy (hc : CallR X (.type T) r) (ho : OpN X.K f r) (hg : Gl X x) (hm : X.mg x = none) (hv : bootBuiltins x = some (.type T)) (ha : PA X (e :: es) (rdA X.K XC F W fa)) (hn : x ≠ "__name__") (hdb : (x == ("__debug__" : Str)) = false)
    (he : starEach (e :: es) X.env = (false, eval e X.env) :: starEach es X.env) (hpl : (backTo pos (starEach es X.env)).any (·.1) = false) : PE X (.Call (.Name x p) (e :: es) [] pos) (rdE X.K XC F W (eCb f fa)) :=
  PEimp (pe_callTy hc hg hm hv ha hn hdb he hpl) fun _ _ _ h => callN_ok ho h
end

/-! ### 2. isinstance of a built-in type -/
inductive Ty where
  | int | bool | str | tuple | list | dict
def Ty.name : Ty → String
  | .int => "int" | .bool => "bool" | .str => "str" | .tuple => "tuple" | .list => "list" | .dict => "dict"
def isi (T : Ty) (d : D) : Bool := match T, d with
  | .int, .int _ => true
  | .int, .bl _ => true
  | .bool, .bl _ => true
  | .str, .str _ => true
  | .tuple, .tup _ => true
  | .list, .lst _ => true
  | .list, .scr _ => true
  | .dict, .dic _ _ => true
  | _, _ => false
def tyD : D → String
  | .non => "NoneType" | .bl _ => "bool" | .int _ => "int" | .str _ => "str" | .tup _ => "tuple" | .lst _ => "list" | .dic _ _ => "dict" | .scr _ => "list"
theorem isi_kit (K : PySem.W.Frag) (T : Ty) (d : D) : PySem.W.kitOne K (.type (tyD d)) (.type T.name) = some (isi T d) := by
  have t : ∀ T : Ty, kitB "NoneType" T.name = some (isi T .non) ∧ kitB "bool" T.name = some (isi T (.bl true)) ∧ kitB "int" T.name = some (isi T (.int 0)) ∧ kitB "str" T.name = some (isi T (.str ⟨#[]⟩)) ∧
      kitB "tuple" T.name = some (isi T (.tup [])) ∧ kitB "list" T.name = some (isi T (.lst [])) ∧ kitB "dict" T.name = some (isi T (.dic [] [])) ∧ kitB "list" T.name = some (isi T (.scr [])) := by
    intro T
    cases T <;> decide +kernel
  obtain ⟨h1, h2, h3, h4, h5, h6, h7, h8⟩ := t T
  cases d with
  | non => exact kit_ty h1
  | bl _ => cases T <;> exact kit_ty h2
  | int _ => cases T <;> exact kit_ty h3
  | str _ => cases T <;> exact kit_ty h4
  | tup _ => cases T <;> exact kit_ty h5
  | lst _ => cases T <;> exact kit_ty h6
  | dic _ _ => cases T <;> exact kit_ty h7
  | scr _ => cases T <;> exact kit_ty h8
section
variable {K : PySem.W.Frag} {L : Addr → Prop} {H : Hp}
theorem tyx_rd {a : Addr} {u : HO} {vs : List V} (h : TupN K L H a vs) : TyX K H (.ref a) (.type "tuple") := by
  rcases h with ⟨h, _⟩ | ⟨o, its, n, h, c, _⟩
  · rcases h with h | ⟨o, h⟩
    · exact .base (.tup h)
    · exact .fTuple h
  · exact .kTuple h c
theorem tyx_of {d : D} {v : V} (r : SeeR K L H d v) : TyX K H v (.type (tyD d)) := by
  cases d with
  | non => rw [seeN r]; exact .base .non
  | bl b => rw [seeB r]; exact .base (.bl b)
  | int b => rw [seeI r]; exact .base (.int b)
  | str b => rw [seeS r]; exact .base (.str b)
  | tup ds => obtain ⟨a, vs, rfl, t, _⟩ := seeT r; exact tyx_rd (u := .tup vs) t
  | lst ds => obtain ⟨a, vs, rfl, t, _⟩ := r; exact .base (.lst t)
  | dic ks ds => obtain ⟨a, vs, rfl, t, _⟩ := r; exact .base (.dK t)
  | scr ns =>
    obtain ⟨a, rfl, t⟩ := (by simpa only [SeeR, Rep] using r : ∃ a, v = .ref a ∧ LstN K L H a (ns.map V.int))
    rcases t with ⟨h, _⟩ | ⟨o, its, n, h, c, _⟩
    · rcases h with h | ⟨o, h⟩
      · exact .base (.lst h)
      · exact .base (.frz h)
    · exact .kList h c
end
def eIsi (T : Ty) (fa : SE) : SE := fun F ρ μ => (fa F ρ μ).bind fun v μ1 => match v.see μ1 with
  | some d => .ok (.dat (.bl (isi T d))) μ1
  | none => .bad
/-- isinstance(a, (T1, T2, ..)) -/
def eIsiT (Ts : List Ty) (fa : SE) : SE := fun F ρ μ => (fa F ρ μ).bind fun v μ1 => match v.see μ1 with
  | some d => .ok (.dat (.bl (Ts.any fun T => isi T d))) μ1
  | none => .bad
section
variable {X : Cx} {XC : Nat → Addr} {F : Fns} {W : WX} {x t : Str} {p p1 p2 pos : Pos} {e : Expr} {fa : SE} {T : Ty}
theorem ty_bltn (hg : Gl X t) (hm : X.mg t = none) (hv : bootBuiltins t = some (.type T.name)) (hn : t ≠ "__name__") (hdb : (t == ("__debug__" : Str)) = false) : PE X (.Name t p) (tC (.ty T.name)) := pe_bltn hg hm hv rfl hn hdb
theorem c_isi (hg : Gl X "isinstance") (hm : X.mg "isinstance" = none) (ht : PE X (.Name t p1) (tC (.ty T.name))) (ha : PE X e (rdE X.K XC F W fa)) (he : starEach [e, .Name t p1] X.env = (false, eval e X.env) :: starEach [.Name t p1] X.env)
    : PE X (.Call (.Name "isinstance" p) [e, .Name t p1] [] pos) (rdE X.K XC F W (eIsi T fa)) :=
  PEimp (pe_callB call_isi hg hm (by decide +kernel) (pa_cons ha (pa_cons ht pa_nil) he) (by decide) (by decide) he (by rfl)) fun σ H Q ⟨Acc, ι, ρ, μ, S, E, h⟩ => by
    refine rd.bind (.refl S) E h fun v μ1 x H1 _ t1 r1 h1 => ?_
    cases ea : v.see μ1 with
    | none => rw [ea] at h1; exact h1.elim
    | some d =>
      rw [ea] at h1
      exact ⟨x, .ty T.name, .type (tyD d), .type T.name, isi T d, rfl, .ty _, tyx_of (see_ok t1.sim r1.1 ea), isi_kit X.K T d, h1 (.bl (isi T d)) H1 t1 ⟨rfl, trivial⟩⟩
/-- the tuple of types -/
def tyVs (Ts : List Ty) : List V := Ts.map fun T => .ty T.name
def tyUs (Ts : List Ty) : List Value := Ts.map fun T => .type T.name
theorem cls_ts : ∀ Ts : List Ty, Paired ClsV (tyVs Ts) (tyUs Ts)
  | [] => .nil
  | T :: Ts => .cons (.ty _) (cls_ts Ts)
theorem kit_ts (K : PySem.W.Frag) (d : D) : ∀ Ts : List Ty, PySem.W.kitAny K (.type (tyD d)) (tyUs Ts) = some (Ts.any fun T => isi T d)
  | [] => kitAny_nil
  | T :: Ts => by
    refine kitAny_cons (b := isi T d) (isi_kit K T d) (fun h => ?_) (fun h => ?_)
    · rw [List.any_cons, h, Bool.false_or]; exact kit_ts K d Ts
    · rw [List.any_cons, h, Bool.true_or]
def tTys (Ts : List Ty) : TA := fun _ H Q => Q (tyVs Ts) H
theorem c_isiT {elts : List Expr} {k : Nat} {Ts : List Ty} (hg : Gl X "isinstance") (hm : X.mg "isinstance" = none) (ht : PA X elts (tTys Ts)) (hl : Ts.length ≤ 20) (ha : PE X e (rdE X.K XC F W fa)) (he : starEach [e, .Tuple elts k p1] X.env = (false, eval e X.env) :: starEach [.Tuple elts k p1] X.env)
    : PE X (.Call (.Name "isinstance" p) [e, .Tuple elts k p1] [] pos) (rdE X.K XC F W (eIsiT Ts fa)) :=
  PEimp (pe_callB call_isiT hg hm (by decide +kernel) (pa_cons ha (pa_cons (pe_tup ht) pa_nil) he) (by decide) (by decide) he (by rfl)) fun σ H Q ⟨Acc, ι, ρ, μ, S, E, h⟩ => by
    refine rd.bind (.refl S) E h fun v μ1 x H1 _ t1 r1 h1 => ?_
    cases ea : v.see μ1 with
    | none => rw [ea] at h1; exact h1.elim
    | some d =>
      rw [ea] at h1
      refine ⟨by show (tyVs Ts).length ≤ sizeLine; unfold tyVs; rw [List.length_map]; exact Nat.le_trans hl (by decide), fun p2 n => ?_⟩
      have tu := t1.sim.up n (.tup (tyVs Ts))
      have r2 : SeeR X.K (Liv Acc μ1 ι) (upd H1 p2 (.tup (tyVs Ts))) d x := see_ok tu.sim (EvR.mv t1 S tu r1.1 rfl) ea
      exact ⟨x, p2, tyVs Ts, .type (tyD d), tyUs Ts, _, rfl, upd_same, cls_ts Ts, tyx_of r2, kit_ts X.K d Ts, h1 (.bl _) _ (t1.trans tu) ⟨rfl, trivial⟩⟩
end

/-! ### 3. len, all, any, max, min, sum, abs, int, str, list, tuple, divmod -/
def bLen : List D → Option EV
  | [.str x] => if x.length ≤ LIM then some (.dat (.int x.length)) else none
  | [.tup ds] => some (.dat (.int ds.length))
  | [.lst ds] => some (.dat (.int ds.length))
  | [.dic ks _] => some (.dat (.int ks.length))
  | [.scr ns] => some (.dat (.int ns.length))
  | _ => none
def bls : List D → Option (List Bool)
  | [] => some []
  | .bl b :: ds => (bls ds).map (b :: ·)
  | _ => none
def toInts : List D → Option (List Int)
  | [] => some []
  | .int b :: ds => (toInts ds).map (b :: ·)
  | _ => none
def bAll : List D → Option EV
  | [.lst ds] => (bls ds).map fun bs => .dat (.bl (bs.all id))
  | _ => none
def bAny : List D → Option EV
  | [.lst ds] => (bls ds).map fun bs => .dat (.bl (bs.any id))
  | _ => none
def maxI : Int → List Int → Int
  | m, [] => m
  | m, n :: ns => maxI (if m < n then n else m) ns
def minI : Int → List Int → Int
  | m, [] => m
  | m, n :: ns => minI (if n < m then n else m) ns
def bMax : List D → Option EV
  | [.int i, .int j] => some (.dat (.int (if j > i then j else i)))
  | [.lst ds] => match toInts ds with
    | some (n :: ns) => some (.dat (.int (maxI n ns)))
    | _ => none
  | _ => none
def bMin : List D → Option EV
  | [.int i, .int j] => some (.dat (.int (if j < i then j else i)))
  | [.lst ds] => match toInts ds with
    | some (n :: ns) => some (.dat (.int (minI n ns)))
    | _ => none
  | _ => none
def bSum : List D → Option EV
  | [.lst ds] => (toInts ds).map fun ns => .dat (.int ns.sum)
  | [.scr ns] => some (.dat (.int ns.sum))
  | _ => none
def bAbs : List D → Option EV
  | [.int i] => some (.dat (.int (if i < 0 then -i else i)))
  | _ => none
def bInt : List D → Option EV
  | [.int i] => some (.dat (.int i))
  | [.bl b] => some (.dat (.int (if b then 1 else 0)))
  | _ => none
def bList : List D → Option EV
  | [.lst ds] => some (.new (.lst ds))
  | [.tup ds] => some (.new (.lst ds))
  | _ => none
def bTuple : List D → Option EV
  | [.lst ds] => some (.dat (.tup ds))
  | [.tup ds] => some (.dat (.tup ds))
  | _ => none
def bDivmod : List D → Option EV
  | [.int i, .int j] => if 0 < j ∧ j < 1073741824 then some (.dat (.tup [.int (i / j), .int (i % j)])) else none
  | _ => none
section
variable {K : PySem.W.Frag} {L : Addr → Prop} {H : Hp}
theorem sees1 {d : D} {xs : List V} (h : SeesR K L H [d] xs) : ∃ x, xs = [x] ∧ SeeR K L H d x := by
  obtain ⟨v, r, rfl, h1, h2⟩ := h
  have h2 : r = [] := h2
  subst h2
  exact ⟨v, rfl, h1⟩
theorem sees2 {d e : D} {xs : List V} (h : SeesR K L H [d, e] xs) : ∃ x y, xs = [x, y] ∧ SeeR K L H d x ∧ SeeR K L H e y := by
  obtain ⟨v, r, rfl, h1, h2⟩ := h
  obtain ⟨y, rfl, h3⟩ := sees1 h2
  exact ⟨v, y, rfl, h1, h3⟩
theorem bls_rep : ∀ {ds : List D} {bs : List Bool} {vs : List V}, bls ds = some bs → Reps K L H ds vs → vs = bs.map V.bl
  | [], bs, vs, h, r => by cases h; exact r.invN
  | d :: ds, bs, vs, h, r => by
    obtain ⟨v, rs, rfl, h1, h2⟩ := r.inv
    cases d <;> simp only [bls, reduceCtorEq] at h
    cases e : bls ds with
    | none => rw [e] at h; cases h
    | some cs =>
      rw [e] at h; cases h
      simp only [Rep] at h1
      rw [h1, bls_rep e h2] <;> rfl
theorem ints_rep : ∀ {ds : List D} {bs : List Int} {vs : List V}, toInts ds = some bs → Reps K L H ds vs → vs = bs.map V.int
  | [], bs, vs, h, r => by cases h; exact r.invN
  | d :: ds, bs, vs, h, r => by
    obtain ⟨v, rs, rfl, h1, h2⟩ := r.inv
    cases d <;> simp only [toInts, reduceCtorEq] at h
    cases e : toInts ds with
    | none => rw [e] at h; cases h
    | some cs =>
      rw [e] at h; cases h
      simp only [Rep] at h1
      rw [h1, ints_rep e h2] <;> rfl
theorem maxI_ge : ∀ (ns : List Int) (m : Int), m ≤ maxI m ns ∧ (∀ n ∈ ns, n ≤ maxI m ns) ∧ (maxI m ns = m ∨ maxI m ns ∈ ns)
  | [], m => ⟨Int.le_refl _, by simp, .inl rfl⟩
  | n :: ns, m => by
    by_cases e : m < n
    · obtain ⟨h1, h2, h3⟩ := maxI_ge ns n
      simp only [maxI, if_pos e]
      refine ⟨by omega, fun k hk => ?_, ?_⟩
      · rcases List.mem_cons.mp hk with rfl | hk
        · exact h1
        · exact h2 k hk
      · rcases h3 with h3 | h3
        · rw [h3]; exact .inr List.mem_cons_self
        · exact .inr (List.mem_cons_of_mem _ h3)
    · obtain ⟨h1, h2, h3⟩ := maxI_ge ns m
      simp only [maxI, if_neg e]
      refine ⟨h1, fun k hk => ?_, ?_⟩
      · rcases List.mem_cons.mp hk with rfl | hk
        · omega
        · exact h2 k hk
      · rcases h3 with h3 | h3
        · exact .inl h3
        · exact .inr (List.mem_cons_of_mem _ h3)
theorem minI_le : ∀ (ns : List Int) (m : Int), minI m ns ≤ m ∧ (∀ n ∈ ns, minI m ns ≤ n) ∧ (minI m ns = m ∨ minI m ns ∈ ns)
  | [], m => ⟨Int.le_refl _, by simp, .inl rfl⟩
  | n :: ns, m => by
    by_cases e : n < m
    · obtain ⟨h1, h2, h3⟩ := minI_le ns n
      simp only [minI, if_pos e]
      refine ⟨by omega, fun k hk => ?_, ?_⟩
      · rcases List.mem_cons.mp hk with rfl | hk
        · exact h1
        · exact h2 k hk
      · rcases h3 with h3 | h3
        · rw [h3]; exact .inr List.mem_cons_self
        · exact .inr (List.mem_cons_of_mem _ h3)
    · obtain ⟨h1, h2, h3⟩ := minI_le ns m
      simp only [minI, if_neg e]
      refine ⟨h1, fun k hk => ?_, ?_⟩
      · rcases List.mem_cons.mp hk with rfl | hk
        · omega
        · exact h2 k hk
      · rcases h3 with h3 | h3
        · exact .inl h3
        · exact .inr (List.mem_cons_of_mem _ h3)
theorem max_uniq {ns : List Int} {n m : Int} (h1 : m ∈ n :: ns) (h2 : ∀ y, y ∈ n :: ns → y ≤ m) : m = maxI n ns := by
  obtain ⟨a, b, c⟩ := maxI_ge ns n
  have h3 : maxI n ns ∈ n :: ns := by
    rcases c with c | c
    · rw [c]; exact List.mem_cons_self
    · exact List.mem_cons_of_mem _ c
  have h4 := h2 _ h3
  rcases List.mem_cons.mp h1 with e | h1
  · omega
  · have := b m h1; omega
theorem min_uniq {ns : List Int} {n m : Int} (h1 : m ∈ n :: ns) (h2 : ∀ y, y ∈ n :: ns → m ≤ y) : m = minI n ns := by
  obtain ⟨a, b, c⟩ := minI_le ns n
  have h3 : minI n ns ∈ n :: ns := by
    rcases c with c | c
    · rw [c]; exact List.mem_cons_self
    · exact List.mem_cons_of_mem _ c
  have h4 := h2 _ h3
  rcases List.mem_cons.mp h1 with e | h1
  · omega
  · have := b m h1; omega
end
section
variable {X : Cx}
def rLen (K : PySem.W.Frag) : List V → Hp → VK → Prop := fun xs H Q => ((∃ p ys, xs = [.ref p] ∧ (SqL K H p ys ∨ SqT K H p ys) ∧ Q (.int ys.length) H) ∨ (∃ z, xs = [.str z] ∧ z.length ≤ sizeLine ∧ Q (.int z.length) H)) ∨ (∃ a kvs, xs = [V.ref a] ∧ H a = some (.dK kvs) ∧ Q (.int kvs.length) H)
theorem or_len : CallR X (.builtin "len") (rLen X.K) := CallR.or (CallR.or call_len_seq call_len_str) call_lenD
theorem on_len : OpN X.K bLen (rLen X.K) := by
  intro Acc ι μ H ds xs e Q S r h q
  unfold bLen at h
  split at h
  · replace r := sees1 r; obtain ⟨x, rfl, r⟩ := r
    split at h
    · rename_i hl
      cases h
      rw [seeS r]
      exact .inl (.inr ⟨_, rfl, lim_ok hl, fin_dat S q rep_int⟩)
    · cases h
  · replace r := sees1 r; obtain ⟨x, rfl, r⟩ := r
    cases h
    obtain ⟨a, vs, rfl, t, r⟩ := seeT r
    rw [← r.len] at q
    exact .inl (.inl ⟨a, vs, rfl, .inr t.sq, fin_dat S q rep_int⟩)
  · replace r := sees1 r; obtain ⟨x, rfl, r⟩ := r
    cases h
    obtain ⟨a, vs, rfl, t, r⟩ := r
    rw [← r.len] at q
    exact .inl (.inl ⟨a, vs, rfl, .inl (SqL.of t), fin_dat S q rep_int⟩)
  · replace r := sees1 r; obtain ⟨x, rfl, r⟩ := r
    cases h
    obtain ⟨a, vs, rfl, t, hl, r⟩ := r
    rename_i ks ds'
    have e : (ks.zip vs).length = ks.length := by rw [List.length_zip, r.len, ← hl, Nat.min_self]
    rw [← e] at q
    exact .inr ⟨a, _, rfl, t, fin_dat S q rep_int⟩
  · replace r := sees1 r; obtain ⟨x, rfl, r⟩ := r
    cases h
    rename_i ns
    obtain ⟨a, rfl, t⟩ := (by simpa only [SeeR, Rep] using r : ∃ a, x = .ref a ∧ LstN X.K (Liv Acc μ ι) H a (ns.map V.int))
    have e : (ns.map V.int).length = ns.length := List.length_map _
    rw [← e] at q
    exact .inl (.inl ⟨a, _, rfl, .inl t.sq, fin_dat S q rep_int⟩)
  · cases h
theorem on_all : OpN X.K bAll (rAll X.K) := by
  intro Acc ι μ H ds xs e Q S r h q
  unfold bAll at h
  split at h
  · rename_i ds'
    cases hb : bls ds' with
    | none => rw [hb] at h; cases h
    | some bs =>
      rw [hb] at h; cases h
      obtain ⟨x, rfl, a, vs, rfl, t, r⟩ := sees1 r
      rw [bls_rep hb r] at t
      exact ⟨a, bs, rfl, SqL.of t, fin_dat S q rep_bl⟩
  · cases h
theorem on_any : OpN X.K bAny (rAny X.K) := by
  intro Acc ι μ H ds xs e Q S r h q
  unfold bAny at h
  split at h
  · rename_i ds'
    cases hb : bls ds' with
    | none => rw [hb] at h; cases h
    | some bs =>
      rw [hb] at h; cases h
      obtain ⟨x, rfl, a, vs, rfl, t, r⟩ := sees1 r
      rw [bls_rep hb r] at t
      exact ⟨a, bs, rfl, SqL.of t, fin_dat S q rep_bl⟩
  · cases h
theorem on_sum : OpN X.K bSum (rSum X.K) := by
  intro Acc ι μ H ds xs e Q S r h q
  unfold bSum at h
  split at h
  · rename_i ds'
    cases hb : toInts ds' with
    | none => rw [hb] at h; cases h
    | some bs =>
      rw [hb] at h; cases h
      obtain ⟨x, rfl, a, vs, rfl, t, r⟩ := sees1 r
      rw [ints_rep hb r] at t
      exact ⟨a, bs, rfl, SqL.of t, fin_dat S q rep_int⟩
  · rename_i ns
    cases h
    replace r := sees1 r; obtain ⟨x, rfl, r⟩ := r
    obtain ⟨a, rfl, t⟩ := (by simpa only [SeeR, Rep] using r : ∃ a, x = .ref a ∧ LstN X.K (Liv Acc μ ι) H a (ns.map V.int))
    exact ⟨a, ns, rfl, t.sq, fin_dat S q rep_int⟩
  · cases h
def rMaxAll (K : PySem.W.Frag) : List V → Hp → VK → Prop := fun xs H Q => (∃ i j, xs = [.int i, .int j] ∧ Q (.int (if j > i then j else i)) H) ∨ rMax K xs H Q
def rMinAll (K : PySem.W.Frag) : List V → Hp → VK → Prop := fun xs H Q => (∃ i j, xs = [.int i, .int j] ∧ Q (.int (if j < i then j else i)) H) ∨ rMin K xs H Q
theorem or_max (hc : X.calm = true) : CallR X (.builtin "max") (rMaxAll X.K) := CallR.or (call_max2 hc) (cr_max hc)
theorem or_min (hc : X.calm = true) : CallR X (.builtin "min") (rMinAll X.K) := CallR.or (call_min2 hc) (cr_min hc)
theorem on_max : OpN X.K bMax (rMaxAll X.K) := by
  intro Acc ι μ H ds xs e Q S r h q
  unfold bMax at h
  split at h
  · cases h
    obtain ⟨x, y, rfl, r1, r2⟩ := sees2 r
    rw [seeI r1, seeI r2]
    exact .inl ⟨_, _, rfl, fin_dat S q rep_int⟩
  · rename_i ds'
    split at h
    · rename_i n ns hb
      cases h
      obtain ⟨x, rfl, a, vs, rfl, t, r⟩ := sees1 r
      rw [ints_rep hb r] at t
      refine .inr ⟨a, n :: ns, rfl, SqL.of t, by simp, fun m h1 h2 => ?_⟩
      rw [max_uniq h1 h2]
      exact fin_dat S q rep_int
    · cases h
  · cases h
theorem on_min : OpN X.K bMin (rMinAll X.K) := by
  intro Acc ι μ H ds xs e Q S r h q
  unfold bMin at h
  split at h
  · cases h
    obtain ⟨x, y, rfl, r1, r2⟩ := sees2 r
    rw [seeI r1, seeI r2]
    exact .inl ⟨_, _, rfl, fin_dat S q rep_int⟩
  · rename_i ds'
    split at h
    · rename_i n ns hb
      cases h
      obtain ⟨x, rfl, a, vs, rfl, t, r⟩ := sees1 r
      rw [ints_rep hb r] at t
      refine .inr ⟨a, n :: ns, rfl, SqL.of t, by simp, fun m h1 h2 => ?_⟩
      rw [min_uniq h1 h2]
      exact fin_dat S q rep_int
    · cases h
  · cases h
theorem on_abs : OpN X.K bAbs (fun xs H Q => ∃ i, xs = [.int i] ∧ Q (.int (if i < 0 then -i else i)) H) := by
  intro Acc ι μ H ds xs e Q S r h q
  unfold bAbs at h
  split at h
  · cases h
    replace r := sees1 r; obtain ⟨x, rfl, r⟩ := r
    rw [seeI r]
    exact ⟨_, rfl, fin_dat S q rep_int⟩
  · cases h
theorem on_int : OpN X.K bInt (fun xs H Q => (∃ i, xs = [.int i] ∧ Q (.int i) H) ∨ ∃ k, xs = [.bl k] ∧ Q (.int (if k then 1 else 0)) H) := by
  intro Acc ι μ H ds xs e Q S r h q
  unfold bInt at h
  split at h
  · cases h
    replace r := sees1 r; obtain ⟨x, rfl, r⟩ := r
    rw [seeI r]
    exact .inl ⟨_, rfl, fin_dat S q rep_int⟩
  · cases h
    replace r := sees1 r; obtain ⟨x, rfl, r⟩ := r
    rw [seeB r]
    exact .inr ⟨_, rfl, fin_dat S q rep_int⟩
  · cases h
theorem on_list : OpN X.K bList (fun xs H Q => ∃ p ys, xs = [.ref p] ∧ (SqL X.K H p ys ∨ SqT X.K H p ys) ∧ ∀ l, H l = none → Q (.ref l) (upd H l (.lst ys))) := by
  intro Acc ι μ H ds xs e Q S r h q
  unfold bList at h
  split at h
  · cases h
    obtain ⟨x, rfl, a, vs, rfl, t, r⟩ := sees1 r
    exact ⟨a, vs, rfl, .inl (SqL.of t), fun l n => fin_lst S q r n⟩
  · cases h
    replace r := sees1 r; obtain ⟨x, rfl, r⟩ := r
    obtain ⟨a, vs, rfl, t, r⟩ := seeT r
    exact ⟨a, vs, rfl, .inr t.sq, fun l n => fin_lst S q r n⟩
  · cases h
theorem on_tuple : OpN X.K bTuple (fun xs H Q => ∃ p ys, xs = [.ref p] ∧ ((SqL X.K H p ys ∧ ∀ l, H l = none → Q (.ref l) (upd H l (.tup ys))) ∨ (SqT X.K H p ys ∧ Q (.ref p) H))) := by
  intro Acc ι μ H ds xs e Q S r h q
  unfold bTuple at h
  split at h
  · cases h
    obtain ⟨x, rfl, a, vs, rfl, t, r⟩ := sees1 r
    exact ⟨a, vs, rfl, .inl ⟨SqL.of t, fun l n => fin_tup S q r n⟩⟩
  · cases h
    replace r := sees1 r; obtain ⟨x, rfl, r⟩ := r
    obtain ⟨a, vs, rfl, t, r⟩ := seeT r
    exact ⟨a, vs, rfl, .inr ⟨t.sq, fin_dat S q (by simp only [Rep]; exact ⟨a, vs, rfl, t, r⟩)⟩⟩
  · cases h
theorem on_divmod : OpN X.K bDivmod (fun xs H Q => ∃ i j, xs = [.int i, .int j] ∧ CDiv i j ∧ ∀ p, H p = none → Q (.ref p) (upd H p (.tup [.int (i / j), .int (i % j)]))) := by
  intro Acc ι μ H ds xs e Q S r h q
  unfold bDivmod at h
  split at h
  · split at h
    · rename_i hc
      cases h
      obtain ⟨x, y, rfl, r1, r2⟩ := sees2 r
      rw [seeI r1, seeI r2]
      exact ⟨_, _, rfl, hc, fun p n => fin_tup S q (Reps.cons rep_int (Reps.cons rep_int Reps.nil)) n⟩
    · cases h
  · cases h
end
end VM
/-! What is walked: sources; targets; list comprehensions. -/
namespace VM
open PySem L2 PyProof.Rows

/-! ### 1. sources -/
inductive Src where
  /-- told items -/
  | vals (ds : List D)
  /-- a cell's items, as they stand at each turn -/
  | cell (k : Nat)
  /-- the same, numbered -/
  | ecell (k : Nat)
def enumD (ds : List D) : List D := ds.zipIdx.map fun p => .tup [.int (p.2 : Nat), p.1]
def Src.at (s : Src) (μ : Sto) : Option (List D) := match s with
  | .vals ds => some ds
  | .ecell k => match μ[k]? with
    | some c => match c.val with
      | .lst ds => some (enumD ds)
      | _ => none
    | none => none
  | .cell k => match μ[k]? with
    | some c => match c.val with
      | .lst ds => some ds
      | _ => none
    | none => none
abbrev SI := Fns → Env → Sto → Res Src
/-- an iterator walks a source, from (ι0, μ0, H0) on -/
def JR (K : PySem.W.Frag) (J : It) (s : Src) (Acc : Addr → Prop) (ι0 : List Addr) (μ0 : Sto) (H0 : Hp) : Prop :=
  ∀ (Acc' : Addr → Prop) (ι : List Addr) (μ : Sto) (H : Hp), Sim K Acc' μ ι H → Mv (Liv Acc μ0 ι0) H0 (Liv Acc' μ ι) H → (∀ (k : Nat) a, ι0[k]? = some a → ι[k]? = some a) → ∀ ds, s.at μ = some ds → ∀ i : Nat,
    (∀ d, ds[i]? = some d → J.go i H ∧ ∀ x H', J.yld i H x H' → Stp K Acc' ι μ H ι μ H' ∧ Rep K (Liv Acc' μ ι) H' d x) ∧ (ds.length ≤ i → J.stop i H)
def rdI (K : PySem.W.Frag) (XC : Nat → Addr) (F : Fns) (W : WX) (f : SI) : TI := fun σ H R =>
  ∃ (Acc : Addr → Prop) (ι : List Addr) (ρ : Env) (μ : Sto), Sim K Acc μ ι H ∧ EnvR K (Liv Acc μ ι) ι H ρ σ ∧ match f F ρ μ with
    | .ok s μ' => ∀ J H', Stp K Acc ι μ H ι μ' H' → JR K J s Acc ι μ' H' → R J H'
    | .exc x μ' => ∀ c d H', Stp K Acc ι μ H ι μ' H' → ExcR K XC (Liv Acc μ' ι) H H' x c d → W c d σ H'
    | .bad => False
/-- the items of a value -/
def srcOf (v : EV) (μ : Sto) : Option Src := match v with
  | .dat (.tup ds) => some (.vals ds)
  | .dat (.lst ds) => some (.vals ds)
  | .dat (.scr ns) => some (.vals (ns.map .int))
  | .dat (.str x) => some (.vals (x.cps.toList.map fun c => .str ⟨#[c]⟩))
  | .new (.lst ds) => some (.vals ds)
  | .cel k => match μ[k]? with
    | some c => match c.val with
      | .lst _ => some (.cell k)
      | _ => none
    | none => none
  | _ => none
def iOf (f : SE) : SI := fun F ρ μ => (f F ρ μ).bind fun v μ1 => match srcOf v μ1 with
  | some s => .ok s μ1
  | none => .bad
theorem PIimp {X : Cx} {tg e : Expr} {t t' : TI} (h : PI X tg e t) (i : ∀ σ H Q, t' σ H Q → t σ H Q) : PI X tg e t' := ⟨fun pins s σ H Q I q => h.run pins s σ H Q I (i σ H Q q)⟩
section
variable {K : PySem.W.Frag} {Acc : Addr → Prop} {ι : List Addr} {μ : Sto} {H : Hp}
theorem Reps.ints : ∀ (ns : List Int), Reps K (Liv Acc μ ι) H (ns.map .int) (ns.map V.int)
  | [] => Reps.nil
  | n :: ns => Reps.cons rep_int (Reps.ints ns)
/-- a list that stands still -/
theorem jr_still {a : Addr} {ds : List D} {vs : List V} (h : LstN K (Liv Acc μ ι) H a vs) (r : Reps K (Liv Acc μ ι) H ds vs) : JR K (Itl K a) (.vals ds) Acc ι μ H := by
  intro Acc' ι' μ' H' S m _ es he i
  cases he
  have h' := h.mv m
  have r' := Reps.mv m _ _ r
  refine ⟨fun d hd => ?_, fun hl => ⟨vs, h'.sq, by rw [r'.len]; exact hl⟩⟩
  obtain ⟨v, hv, rv⟩ := r'.get hd
  refine ⟨⟨vs, v, h'.sq, hv⟩, fun x H'' y => ?_⟩
  obtain ⟨e, y⟩ := y
  subst e
  have e2 := y vs h'.sq
  rw [hv] at e2
  cases e2
  exact ⟨.refl S, rv⟩
theorem jr_tup {a : Addr} {ds : List D} {vs : List V} (h : TupN K (Liv Acc μ ι) H a vs) (r : Reps K (Liv Acc μ ι) H ds vs) : JR K (Itt K a) (.vals ds) Acc ι μ H := by
  intro Acc' ι' μ' H' S m _ es he i
  cases he
  have h' := h.mv m
  have r' := Reps.mv m _ _ r
  refine ⟨fun d hd => ?_, fun hl => ⟨vs, h'.sq, by rw [r'.len]; exact hl⟩⟩
  obtain ⟨v, hv, rv⟩ := r'.get hd
  refine ⟨⟨vs, v, h'.sq, hv⟩, fun x H'' y => ?_⟩
  obtain ⟨e, y⟩ := y
  subst e
  have e2 := y vs h'.sq
  rw [hv] at e2
  cases e2
  exact ⟨.refl S, rv⟩
theorem jr_cell {k : Nat} {a : Addr} (e : ι[k]? = some a) : JR K (Itl K a) (.cell k) Acc ι μ H := by
  intro Acc' ι' μ' H' S m pr es he i
  have e' := pr k a e
  simp only [Src.at] at he
  cases hc : μ'[k]? with
  | none => rw [hc] at he; cases he
  | some c =>
    rw [hc] at he
    simp only at he
    obtain ⟨b, e1, r⟩ := S.cell k c hc
    rw [e'] at e1; cases e1
    cases hv : c.val with
    | dic ks ds => rw [hv] at he; cases he
    | lst ds =>
      rw [hv] at he r
      cases he
      obtain ⟨vs, hl, rr⟩ := r
      refine ⟨fun d hd => ?_, fun hle => ⟨vs, SqL.of hl, by rw [rr.len]; exact hle⟩⟩
      obtain ⟨v, hv, rv⟩ := rr.get hd
      refine ⟨⟨vs, v, SqL.of hl, hv⟩, fun x H'' y => ?_⟩
      obtain ⟨e, y⟩ := y
      subst e
      have e2 := y vs (SqL.of hl)
      rw [hv] at e2
      cases e2
      exact ⟨.refl S, rv⟩
theorem jr_str {x : Str} : JR K (Its x) (.vals (x.cps.toList.map fun c => .str ⟨#[c]⟩)) Acc ι μ H := by
  intro Acc' ι' μ' H' S m _ es he i
  cases he
  refine ⟨fun d hd => ?_, fun hl => ?_⟩
  · rw [List.getElem?_map] at hd
    cases hc : x.cps.toList[i]? with
    | none => rw [hc] at hd; cases hd
    | some c =>
      rw [hc] at hd; cases hd
      refine ⟨?_, fun v H'' y => ?_⟩
      · have := (List.getElem?_eq_some_iff.mp hc).1
        show i < x.cps.size
        simpa using this
      · obtain ⟨e, c', hc', rfl⟩ := y
        subst e
        rw [← Array.getElem?_toList, hc] at hc'
        cases hc'
        exact ⟨.refl S, rep_str⟩
  · rw [List.length_map, Array.length_toList] at hl
    exact hl
theorem jr_range {lo c : Int} {n : Nat} : JR K (Itc lo c n) (.vals ((List.range n).map fun i => .int (lo + (i : Nat) * c))) Acc ι μ H := by
  intro Acc' ι' μ' H' S m _ es he i
  cases he
  refine ⟨fun d hd => ?_, fun hl => ?_⟩
  · rw [List.getElem?_map] at hd
    cases hc : (List.range n)[i]? with
    | none => rw [hc] at hd; cases hd
    | some j =>
      rw [hc] at hd; cases hd
      obtain ⟨hi, e⟩ := List.getElem?_eq_some_iff.mp hc
      rw [List.length_range] at hi
      rw [List.getElem_range] at e
      subst e
      refine ⟨hi, fun v H'' y => ?_⟩
      obtain ⟨e, rfl⟩ := y
      subst e
      exact ⟨.refl S, rep_int⟩
  · rw [List.length_map, List.length_range] at hl
    exact hl
theorem jr_range1 {lo : Int} {n : Nat} : JR K (Itr lo n) (.vals ((List.range n).map fun i => .int (lo + (i : Nat)))) Acc ι μ H := by
  intro Acc' ι' μ' H' S m _ es he i
  cases he
  refine ⟨fun d hd => ?_, fun hl => ?_⟩
  · rw [List.getElem?_map] at hd
    cases hc : (List.range n)[i]? with
    | none => rw [hc] at hd; cases hd
    | some j =>
      rw [hc] at hd; cases hd
      obtain ⟨hi, e⟩ := List.getElem?_eq_some_iff.mp hc
      rw [List.length_range] at hi
      rw [List.getElem_range] at e
      subst e
      refine ⟨hi, fun v H'' y => ?_⟩
      obtain ⟨e, rfl⟩ := y
      subst e
      exact ⟨.refl S, rep_int⟩
  · rw [List.length_map, List.length_range] at hl
    exact hl
end
section
variable {X : Cx} {XC : Nat → Addr} {F : Fns} {W : WX} {tg e a b c : Expr} {fe : SE} {fa : SA} {pos p : Pos}
theorem rdI_of {K : PySem.W.Frag} {σ : L2.St} {H : Hp} {R : It → Hp → Prop} (h : rdI K XC F W (iOf fe) σ H R) : rdE K XC F W fe σ H fun v H1 => (∃ a, v = .ref a ∧ (∃ xs, SqL K H1 a xs) ∧ R (Itl K a) H1) ∨ (∃ a, v = .ref a ∧ (∃ xs, SqT K H1 a xs) ∧ R (Itt K a) H1) ∨ ∃ x, v = .str x ∧ R (Its x) H1 := by
  obtain ⟨Acc, ι, ρ, μ, S, E, h⟩ := h
  refine ⟨Acc, ι, ρ, μ, S, E, ?_⟩
  unfold iOf at h
  cases er : fe F ρ μ with
  | bad => rw [er] at h; exact h
  | exc x μ1 => rw [er] at h; exact h
  | ok v μ1 =>
    rw [er] at h
    simp only [Res.bind] at h
    intro u H1 t1 r1
    replace r1 := r1.1
    cases es : srcOf v μ1 with
    | none => rw [es] at h; exact h.elim
    | some s =>
      rw [es] at h
      simp only at h
      unfold srcOf at es
      split at es
      · cases es
        rename_i ds
        obtain ⟨a, vs, rfl, tp, rp⟩ := (by simpa only [EvR, Rep] using r1 : ∃ a vs, u = .ref a ∧ TupN K _ H1 a vs ∧ Reps K _ H1 ds vs)
        exact .inr (.inl ⟨a, rfl, ⟨vs, tp.sq⟩, h _ H1 t1 (jr_tup tp rp)⟩)
      · cases es
        rename_i ds
        obtain ⟨a, vs, rfl, tp, n, rp⟩ := (by simpa only [EvR, Rep] using r1 : ∃ a vs, u = .ref a ∧ H1 a = some (.lst vs) ∧ ¬ Liv Acc μ1 ι a ∧ Reps K _ H1 ds vs)
        exact .inl ⟨a, rfl, ⟨vs, SqL.of tp⟩, h _ H1 t1 (jr_still (.inl ⟨.inl tp, n⟩) rp)⟩
      · cases es
        rename_i ns
        obtain ⟨a, rfl, tp⟩ := (by simpa only [EvR, Rep] using r1 : ∃ a, u = .ref a ∧ LstN K _ H1 a (ns.map V.int))
        exact .inl ⟨a, rfl, ⟨_, tp.sq⟩, h _ H1 t1 (jr_still tp (Reps.ints ns))⟩
      · cases es
        rename_i x
        have e : u = .str x := r1
        exact .inr (.inr ⟨x, e, h _ H1 t1 jr_str⟩)
      · cases es
        rename_i ds
        obtain ⟨p, rfl, n, vs, hv, rp⟩ := r1
        have nl : ¬ Liv Acc μ1 ι p := fun z => by
          rcases z with z | z
          · exact S.trk z.mem n
          · exact (S.acc p z).2 n
        exact .inl ⟨p, rfl, ⟨vs, SqL.of hv⟩, h _ H1 t1 (jr_still (.inl ⟨.inl hv, nl⟩) rp)⟩
      · rename_i k
        obtain ⟨a, ea, rfl⟩ := r1
        cases hc : μ1[k]? with
        | none => rw [hc] at es; cases es
        | some c =>
          rw [hc] at es
          simp only at es
          cases hv : c.val with
          | dic ks ds => rw [hv] at es; cases es
          | lst ds =>
            rw [hv] at es
            cases es
            obtain ⟨b, e1, r⟩ := t1.sim.cell k c hc
            rw [ea] at e1; cases e1
            rw [hv] at r
            obtain ⟨vs, hl, rp⟩ := r
            exact .inl ⟨a, rfl, ⟨vs, SqL.of hl⟩, h _ H1 t1 (jr_cell ea)⟩
      · cases es
theorem ci_of (he : PE X e (rdE X.K XC F W fe)) : PI X tg e (rdI X.K XC F W (iOf fe)) := by
  refine ⟨fun pins s σ H R I h => ?_⟩
  have key : ∀ P : V → Hp → Prop, rdE X.K XC F W fe σ H P → wpAny (model X.prog X.w) X.A (eval e X.env) (EP X pins σ P) X.xe s := fun P q => he.run pins s σ H P I q
  have h' := rdI_of h
  refine thn (key _ h') fun v s1 ⟨x, H1, I1, r1, q1⟩ => ?_
  -- each way by the layer's own rule, at the value that has come
  rcases q1 with ⟨a, rfl, ⟨xs, hq⟩, q⟩ | ⟨a, rfl, ⟨xs, hq⟩, q⟩ | ⟨x, rfl, q⟩
  · cases r1
    obtain ⟨its, rv, p, hz⟩ := I1.list hq
    refine wpAny_pyIter_list p.isList ?_
    refine ⟨s1.heap.objs.size, [s1.heap.objs.size], _, _, H1, rfl, I1.kept (t' := s1.toks) fun b o e => Heap.get?_push_of_some _ e, turn_list a _, ⟨_, Heap.get?_push_size _ rfl, rfl, rfl⟩, fun b hb => ?_, q⟩
    have e : b = s1.heap.objs.size := by simpa using hb
    subst e
    exact I1.fpOk (Nat.le_refl _) (I1.hok.fresh (Nat.le_refl _))
  · cases r1
    obtain ⟨its, rv, p, hz⟩ := I1.tuple hq
    refine wpAny_pyIter_tuple (show s1.heap.IsTuple a its.toArray from p) ?_
    refine ⟨s1.heap.objs.size, [s1.heap.objs.size], _, _, H1, rfl, I1.kept (t' := s1.toks) fun b o e => Heap.get?_push_of_some _ e, turn_tuple a _, ⟨_, Heap.get?_push_size _ rfl, rfl, rfl⟩, fun b hb => ?_, q⟩
    have e : b = s1.heap.objs.size := by simpa using hb
    subst e
    exact I1.fpOk (Nat.le_refl _) (I1.hok.fresh (Nat.le_refl _))
  · obtain ⟨t, rfl⟩ := r1
    cases ha : x.cps.all (· < 128)
    · exact wpAny_pyIter_wide ha (pi_one (tk := s1.toks) I1 _ (turn_str _ x t "str_iterator" (.inr rfl)) ⟨_, Heap.get?_push_size _ rfl, rfl, rfl⟩ q)
    · exact wpAny_pyIter_ascii ha (pi_one (tk := s1.toks) I1 _ (turn_str _ x t "str_ascii_iterator" (.inl rfl)) ⟨_, Heap.get?_push_size _ rfl, rfl, rfl⟩ q)
/-- ranges -/
def rangeOf : List EV → Option Src
  | [.dat (.int n)] => if -1000000 ≤ n ∧ n ≤ 1000000 then some (.vals ((List.range n.toNat).map fun i => .int ((0 : Int) + (i : Nat)))) else none
  | [.dat (.int m), .dat (.int n)] => if -1000000 ≤ n ∧ n ≤ 1000000 ∧ -1000000 ≤ m ∧ m ≤ 1000000 then some (.vals ((List.range (n - m).toNat).map fun i => .int (m + (i : Nat)))) else none
  | [.dat (.int m), .dat (.int n), .dat (.int c)] => if c = -1 ∧ -1000000 ≤ n ∧ n ≤ 1000000 ∧ -1000000 ≤ m ∧ m ≤ 1000000 then some (.vals ((List.range (m - n).toNat).map fun i => .int (m + (i : Nat) * (-1)))) else none
  | _ => none
def iRange (fa : SA) : SI := fun F ρ μ => (fa F ρ μ).bind fun vs μ1 => match rangeOf vs with
  | some s => .ok s μ1
  | none => .bad
theorem evs1 {K : PySem.W.Frag} {L : Addr → Prop} {ι : List Addr} {H0 H : Hp} {e : EV} {xs : List V} (h : EvsR K L ι H0 H [e] xs) : ∃ x, xs = [x] ∧ EvR K L ι H0 H e x := by
  obtain ⟨v, r, rfl, h1, h2⟩ := h
  have h2 : r = [] := h2
  subst h2
  exact ⟨v, rfl, h1⟩
theorem evs2 {K : PySem.W.Frag} {L : Addr → Prop} {ι : List Addr} {H0 H : Hp} {e f : EV} {xs : List V} (h : EvsR K L ι H0 H [e, f] xs) : ∃ x y, xs = [x, y] ∧ EvR K L ι H0 H e x ∧ EvR K L ι H0 H f y := by
  obtain ⟨v, r, rfl, h1, h2⟩ := h
  obtain ⟨y, rfl, h3⟩ := evs1 h2
  exact ⟨v, y, rfl, h1, h3⟩
theorem evs3 {K : PySem.W.Frag} {L : Addr → Prop} {ι : List Addr} {H0 H : Hp} {e f g : EV} {xs : List V} (h : EvsR K L ι H0 H [e, f, g] xs) : ∃ x y z, xs = [x, y, z] ∧ EvR K L ι H0 H e x ∧ EvR K L ι H0 H f y ∧ EvR K L ι H0 H g z := by
  obtain ⟨v, r, rfl, h1, h2⟩ := h
  obtain ⟨y, z, rfl, h3, h4⟩ := evs2 h2
  exact ⟨v, y, z, rfl, h1, h3, h4⟩
theorem ci_range1 (hg : Gl X "range") (hm : X.mg "range" = none) (ha : PA X [a] (rdA X.K XC F W fa)) (hs : starEach [a] X.env = [(false, eval a X.env)]) (h1 : ∀ F ρ μ vs μ', fa F ρ μ = .ok vs μ' → vs.length = 1) :
    PI X tg (.Call (.Name "range" p) [a] [] pos) (rdI X.K XC F W (iRange fa)) :=
  PIimp (pi_range1 hg hm ha hs) fun σ H R ⟨Acc, ι, ρ, μ, S, E, h⟩ => by
    refine ⟨Acc, ι, ρ, μ, S, E, ?_⟩
    unfold iRange at h
    cases er : fa F ρ μ with
    | bad => rw [er] at h; exact h
    | exc x μ1 => rw [er] at h; exact h
    | ok vs μ1 =>
      rw [er] at h
      simp only [Res.bind] at h
      intro u H1 t1 r1
      have hl := h1 _ _ _ _ _ er
      cases es : rangeOf vs with
      | none => rw [es] at h; exact h.elim
      | some s =>
        rw [es] at h
        simp only at h
        unfold rangeOf at es
        split at es
        · split at es
          · rename_i n hn
            cases es
            obtain ⟨x, rfl, rx⟩ := evs1 r1
            have e : x = .int n := rx
            subst e
            exact ⟨n, rfl, by omega, by omega, h _ H1 t1 jr_range1⟩
          · cases es
        · cases hl
        · cases hl
        · cases es
theorem ci_range2 (hg : Gl X "range") (hm : X.mg "range" = none) (ha : PA X [a, b] (rdA X.K XC F W fa)) (hs : starEach [a, b] X.env = [(false, eval a X.env), (false, eval b X.env)]) (hs2 : starEach [b] X.env = [(false, eval b X.env)]) (h1 : ∀ F ρ μ vs μ', fa F ρ μ = .ok vs μ' → vs.length = 2) :
    PI X tg (.Call (.Name "range" p) [a, b] [] pos) (rdI X.K XC F W (iRange fa)) :=
  PIimp (pi_range2 hg hm ha hs hs2) fun σ H R ⟨Acc, ι, ρ, μ, S, E, h⟩ => by
    refine ⟨Acc, ι, ρ, μ, S, E, ?_⟩
    unfold iRange at h
    cases er : fa F ρ μ with
    | bad => rw [er] at h; exact h
    | exc x μ1 => rw [er] at h; exact h
    | ok vs μ1 =>
      rw [er] at h
      simp only [Res.bind] at h
      intro u H1 t1 r1
      have hl := h1 _ _ _ _ _ er
      cases es : rangeOf vs with
      | none => rw [es] at h; exact h.elim
      | some s =>
        rw [es] at h
        simp only at h
        unfold rangeOf at es
        split at es
        · cases hl
        · split at es
          · rename_i m n hn
            cases es
            obtain ⟨x, y, rfl, rx, ry⟩ := evs2 r1
            have e : x = .int m := rx
            have e2 : y = .int n := ry
            subst e e2
            exact ⟨m, n, rfl, ⟨by omega, by omega, by omega, by omega⟩, h _ H1 t1 jr_range1⟩
          · cases es
        · cases hl
        · cases es
theorem ci_range3 (hg : Gl X "range") (hm : X.mg "range" = none) (ha : PA X [a, b, c] (rdA X.K XC F W fa)) (hs : starEach [a, b, c] X.env = (false, eval a X.env) :: starEach [b, c] X.env) (hpl : (backTo pos (starEach [b, c] X.env)).any (·.1) = false) (h1 : ∀ F ρ μ vs μ', fa F ρ μ = .ok vs μ' → vs.length = 3) :
    PI X tg (.Call (.Name "range" p) [a, b, c] [] pos) (rdI X.K XC F W (iRange fa)) :=
  PIimp (pi_range3 hg hm ha hs hpl) fun σ H R ⟨Acc, ι, ρ, μ, S, E, h⟩ => by
    refine ⟨Acc, ι, ρ, μ, S, E, ?_⟩
    unfold iRange at h
    cases er : fa F ρ μ with
    | bad => rw [er] at h; exact h
    | exc x μ1 => rw [er] at h; exact h
    | ok vs μ1 =>
      rw [er] at h
      simp only [Res.bind] at h
      intro u H1 t1 r1
      have hl := h1 _ _ _ _ _ er
      cases es : rangeOf vs with
      | none => rw [es] at h; exact h.elim
      | some s =>
        rw [es] at h
        simp only at h
        unfold rangeOf at es
        split at es
        · cases hl
        · cases hl
        · split at es
          · rename_i m n c hn
            cases es
            obtain ⟨x, y, z, rfl, rx, ry, rz⟩ := evs3 r1
            have e : x = .int m := rx
            have e2 : y = .int n := ry
            have e3 : z = .int c := rz
            subst e e2 e3
            obtain ⟨hc, _⟩ := hn
            subst hc
            exact ⟨m, n, -1, (m - n).toNat, rfl, RgC.neg (by omega) (by omega) (by omega) (by omega), h _ H1 t1 jr_range⟩
          · cases es
        · cases es
theorem evs_len : ∀ (fs : List SE) (F : Fns) (ρ : Env) (μ : Sto) (vs : List EV) (μ' : Sto), evs fs F ρ μ = .ok vs μ' → vs.length = fs.length
  | [], F, ρ, μ, vs, μ', h => by cases h; rfl
  | f :: fs, F, ρ, μ, vs, μ', h => by
    simp only [evs] at h
    cases e : f F ρ μ with
    | bad => rw [e] at h; cases h
    | exc x μ1 => rw [e] at h; cases h
    | ok v μ1 =>
      rw [e] at h
      simp only [Res.bind] at h
      cases e2 : evs fs F ρ μ1 with
      | bad => rw [e2] at h; cases h
      | exc x μ2 => rw [e2] at h; cases h
      | ok ws μ2 =>
        rw [e2] at h
        cases h
        rw [List.length_cons, List.length_cons, evs_len fs F ρ μ1 ws _ e2]
end
end VM
/-! Targets of names; list comprehensions; the for loop. -/
namespace VM
open PySem L2 PyProof.Rows

/-! ### 1. targets -/
inductive Tgt where
  | nm (i : Nat) | tup (ts : List Tgt)
mutual
def asg : Tgt → D → Env → Option Env
  | .nm i, d, ρ => if i < ρ.length then some (ρ.set i (some (.dat d))) else none
  | .tup ts, .tup ds, ρ => asgs ts ds ρ
  | .tup _, _, _ => none
def asgs : List Tgt → List D → Env → Option Env
  | [], [], ρ => some ρ
  | t :: ts, d :: ds, ρ => match asg t d ρ with
    | some ρ1 => asgs ts ds ρ1
    | none => none
  | _, _, _ => none
end
mutual
def gT (K : PySem.W.Frag) : Tgt → TG
  | .nm i => gName i
  | .tup ts => gTup K ts.length (gTs K ts)
def gTs (K : PySem.W.Frag) : List Tgt → TGs
  | [] => gNil
  | t :: ts => gCons (gT K t) (gTs K ts)
end
mutual
def Tgt.slots : Tgt → List Nat
  | .nm i => [i]
  | .tup ts => slotsL ts
def slotsL : List Tgt → List Nat
  | [] => []
  | t :: ts => t.slots ++ slotsL ts
end
section
variable {K : PySem.W.Frag} {L : Addr → Prop} {ι : List Addr} {H : Hp}
theorem EnvR.set {ρ : Env} {σ : L2.St} {i : Nat} {s : SV} {v : V} (E : EnvR K L ι H ρ σ) (r : SvR K L ι H s v) : EnvR K L ι H (ρ.set i (some s)) (σ.set i (some v)) := by
  refine ⟨by rw [List.length_set, List.length_set]; exact E.1, fun j s' e => ?_⟩
  by_cases hj : i = j
  · subst hj
    by_cases hl : i < ρ.length
    · rw [List.getElem?_set_self hl] at e
      cases e
      exact ⟨v, List.getElem?_set_self (by rw [← E.1]; exact hl), r⟩
    · rw [List.getElem?_eq_none (by rw [List.length_set]; omega)] at e
      cases e
  · rw [List.getElem?_set_ne hj] at e
    obtain ⟨w, e1, r1⟩ := E.2 j s' e
    exact ⟨w, by rw [List.getElem?_set_ne hj]; exact e1, r1⟩
theorem EnvR.clr {ρ : Env} {σ : L2.St} {i : Nat} (E : EnvR K L ι H ρ σ) : EnvR K L ι H (ρ.set i none) (σ.set i none) := by
  refine ⟨by rw [List.length_set, List.length_set]; exact E.1, fun j s' e => ?_⟩
  by_cases hj : i = j
  · subst hj
    by_cases hl : i < ρ.length
    · rw [List.getElem?_set_self hl] at e
      cases e
    · rw [List.getElem?_eq_none (by rw [List.length_set]; omega)] at e
      cases e
  · rw [List.getElem?_set_ne hj] at e
    obtain ⟨w, e1, r1⟩ := E.2 j s' e
    exact ⟨w, by rw [List.getElem?_set_ne hj]; exact e1, r1⟩
def wipeE (ρ : Env) : List Nat → Env
  | [] => ρ
  | v :: vs => (wipeE ρ vs).set v none
theorem EnvR.wiped {ρ : Env} {σ : L2.St} (E : EnvR K L ι H ρ σ) : ∀ vs, EnvR K L ι H (wipeE ρ vs) (wipe σ vs)
  | [] => E
  | v :: vs => by
    unfold wipeE wipe
    exact (EnvR.wiped E vs).clr
theorem wipe_set {σ : L2.St} {i : Nat} {x : Option V} : ∀ {vs : List Nat}, i ∈ vs → wipe (σ.set i x) vs = wipe σ vs
  | [], h => absurd h (by simp)
  | v :: vs, h => by
    unfold wipe
    by_cases hv : i ∈ vs
    · rw [wipe_set hv]
    · have e : i = v := by
        rcases List.mem_cons.mp h with e | h
        · exact e
        · exact absurd h hv
      subst e
      have e2 : ∀ (ws : List Nat), i ∉ ws → wipe (σ.set i x) ws = (wipe σ ws).set i x := by
        intro ws
        induction ws with
        | nil => intro _; rfl
        | cons w ws ih =>
          intro hn
          unfold wipe
          rw [ih (fun z => hn (List.mem_cons_of_mem _ z))]
          exact List.set_comm _ _ (fun z => hn (z ▸ List.mem_cons_self))
      rw [e2 vs hv, List.set_set]
mutual
theorem gT_ok {Q : L2.St → Hp → Prop} : ∀ (t : Tgt) (d : D) (v : V) (ρ ρ' : Env) (σ : L2.St), asg t d ρ = some ρ' → Rep K L H d v → EnvR K L ι H ρ σ →
    (∀ σ', EnvR K L ι H ρ' σ' → (∀ vs : List Nat, (∀ i ∈ t.slots, i ∈ vs) → wipe σ' vs = wipe σ vs) → Q σ' H) → gT K t v σ H Q
  | .nm i, d, v, ρ, ρ', σ, h, r, E, q => by
    simp only [asg] at h
    split at h
    · cases h
      simp only [gT]
      exact q _ (E.set (s := .dat d) r) fun vs hv => wipe_set (hv i (by simp only [Tgt.slots]; exact List.mem_singleton.mpr rfl))
    · cases h
  | .tup ts, d, v, ρ, ρ', σ, h, r, E, q => by
    cases d <;> simp only [asg, reduceCtorEq] at h
    rename_i ds
    simp only [Rep] at r
    obtain ⟨a, vs, rfl, t, r⟩ := r
    have hl : ts.length = ds.length := asgs_len ts ds ρ ρ' h
    simp only [gT]
    exact ⟨a, vs, rfl, t.sq, by rw [r.len, hl], gTs_ok ts ds vs ρ ρ' σ h r E fun σ' E' w => q σ' E' fun ws hw => w ws fun i hi => hw i (by simp only [Tgt.slots]; exact hi)⟩
theorem gTs_ok {Q : L2.St → Hp → Prop} : ∀ (ts : List Tgt) (ds : List D) (vs : List V) (ρ ρ' : Env) (σ : L2.St), asgs ts ds ρ = some ρ' → Reps K L H ds vs → EnvR K L ι H ρ σ →
    (∀ σ', EnvR K L ι H ρ' σ' → (∀ ws : List Nat, (∀ i ∈ slotsL ts, i ∈ ws) → wipe σ' ws = wipe σ ws) → Q σ' H) → gTs K ts vs σ H Q
  | [], [], vs, ρ, ρ', σ, h, r, E, q => by
    simp only [asgs] at h
    cases h
    simp only [gTs]
    exact ⟨r.invN, q σ E fun _ _ => rfl⟩
  | [], _ :: _, vs, ρ, ρ', σ, h, r, E, q => by simp [asgs] at h
  | _ :: _, [], vs, ρ, ρ', σ, h, r, E, q => by simp [asgs] at h
  | t :: ts, d :: ds, vs, ρ, ρ', σ, h, r, E, q => by
    simp only [asgs] at h
    cases e : asg t d ρ with
    | none => rw [e] at h; cases h
    | some ρ1 =>
      rw [e] at h
      simp only at h
      obtain ⟨v, rs, rfl, h1, h2⟩ := r.inv
      simp only [gTs]
      refine ⟨v, rs, rfl, gT_ok t d v ρ ρ1 σ e h1 E fun σ1 E1 w1 => gTs_ok ts ds rs ρ1 ρ' σ1 h h2 E1 fun σ2 E2 w2 => q σ2 E2 fun ws hw => ?_⟩
      rw [w2 ws fun i hi => hw i (by simp only [slotsL]; exact List.mem_append_right _ hi), w1 ws fun i hi => hw i (by simp only [slotsL]; exact List.mem_append_left _ hi)]
theorem asgs_len : ∀ (ts : List Tgt) (ds : List D) (ρ ρ' : Env), asgs ts ds ρ = some ρ' → ts.length = ds.length
  | [], [], ρ, ρ', h => rfl
  | [], _ :: _, ρ, ρ', h => by simp [asgs] at h
  | _ :: _, [], ρ, ρ', h => by simp [asgs] at h
  | t :: ts, d :: ds, ρ, ρ', h => by
    simp only [asgs] at h
    cases e : asg t d ρ with
    | none => rw [e] at h; cases h
    | some ρ1 =>
      rw [e] at h
      rw [List.length_cons, List.length_cons, asgs_len ts ds ρ1 ρ' h]
end
end

/-! ### 2. list comprehensions -/
def bYes : SB := fun _ _ μ => .ok true μ
/-- nothing is raised out of a comprehension -/
def Res.nox {α : Type} (r : Res α) : Res α := match r with
  | .ok a μ => .ok a μ
  | _ => .bad
def lcStep (F : Fns) (t : Tgt) (ifs : SB) (elt : SE) (ρ0 : Env) (d : D) (μ : Sto) : Res (Option D) := match asg t d ρ0 with
  | none => .bad
  | some ρ => (ifs F ρ μ).nox.bind fun b μ1 => match b with
    | true => (elt F ρ μ1).nox.bind fun v μ2 => match v.frz μ2 with
      | some (x, μ3) => .ok (some x) μ3
      | none => .bad
    | false => .ok none μ1
def lcLoop (s : Src) (step : D → Sto → Res (Option D)) : Nat → Nat → Sto → Res (List D)
  | 0, _, _ => .bad
  | n + 1, i, μ => match s.at μ with
    | none => .bad
    | some ds => match ds[i]? with
      | none => .ok [] μ
      | some d => if i < LIM then (step d μ).bind fun o μ1 => (lcLoop s step n (i + 1) μ1).bind fun r μ2 => match o with
        | some x => .ok (x :: r) μ2
        | none => .ok r μ2
        else .bad
def Src.len (s : Src) (μ : Sto) : Nat := match s.at μ with
  | some ds => ds.length
  | none => 0
def eLc (it : SI) (t : Tgt) (ifs : SB) (elt : SE) (own : List Nat) : SE := fun F ρ μ => (it F ρ μ).bind fun s μ1 =>
  (lcLoop s (lcStep F t ifs elt (wipeE ρ own)) (s.len μ1 + 1) 0 μ1).bind fun ds μ2 => if ds.length ≤ LIM then .ok (.new (.lst ds)) μ2 else .bad

section
variable {K : PySem.W.Frag} {Acc : Addr → Prop} {ι : List Addr} {μ : Sto} {H : Hp}
theorem Sim.less {Acc' : Addr → Prop} (S : Sim K Acc' μ ι H) (h : ∀ a, Acc a → Acc' a) : Sim K Acc μ ι H := by
  refine ⟨S.len, S.nd, fun a ha => S.acc a (h a ha), fun k c e => ?_⟩
  obtain ⟨a, e1, r⟩ := S.cell k c e
  exact ⟨a, e1, r.mv (fun a o e n => ⟨e, fun z => n (z.imp id (h a))⟩) fun _ e => e⟩
theorem Stp.less {Acc' : Addr → Prop} {ι' : List Addr} {μ' : Sto} {H' : Hp} (t : Stp K Acc' ι μ H ι' μ' H') (h : ∀ a, Acc a → Acc' a) : Stp K Acc ι μ H ι' μ' H' := ⟨t.sim.less h, t.pre, t.keep, t.trk, t.liv⟩
/-- the touched one is written -/
theorem Sim.wr (S : Sim K Acc μ ι H) {p : Addr} (hp : Acc p) (o : HO) : Sim K Acc μ ι (upd H p o) ∧ Mv (Liv Acc μ ι) H (Liv Acc μ ι) (upd H p o) := by
  have m : Mv (Liv Acc μ ι) H (Liv Acc μ ι) (upd H p o) := fun a u e l => ⟨by
    have ne : a ≠ p := fun z => l (.inr (z ▸ hp))
    rw [upd_ne ne]; exact e, l⟩
  refine ⟨⟨S.len, S.nd, fun a h => ⟨(S.acc a h).1, ?_⟩, fun k c e => ?_⟩, m⟩
  · by_cases e : a = p
    · subst e; rw [upd_same]; simp
    · rw [upd_ne e]; exact (S.acc a h).2
  · obtain ⟨a, e1, r⟩ := S.cell k c e
    refine ⟨a, e1, r.mv m fun u hu => ?_⟩
    have ne : a ≠ p := fun z => (S.acc p hp).1 (z ▸ List.mem_of_getElem? e1)
    rw [upd_ne ne]; exact hu
end
abbrev W0 : WX := fun _ _ _ _ => False
section
variable {K : PySem.W.Frag} {XC : Nat → Addr} {F : Fns} {W : WX} {Acc : Addr → Prop} {ι : List Addr} {μ : Sto} {H : Hp} {σ : L2.St}
theorem SvR.mvM {L L' : Addr → Prop} {H H' : Hp} {s : SV} {v : V} (m : Mv L H L' H') (h : SvR K L ι H s v) : SvR K L' ι H' s v := by
  cases s with
  | dat d => exact Rep.mv m _ _ h
  | cel k => exact h
theorem EnvR.mvM {L L' : Addr → Prop} {H H' : Hp} {ρ : Env} (m : Mv L H L' H') (E : EnvR K L ι H ρ σ) : EnvR K L' ι H' ρ σ := ⟨E.1, fun i s e => let ⟨v, e1, r⟩ := E.2 i s e; ⟨v, e1, r.mvM m⟩⟩
theorem Mv.trans {L L1 L2 : Addr → Prop} {H H1 H2 : Hp} (a : Mv L H L1 H1) (b : Mv L1 H1 L2 H2) : Mv L H L2 H2 := fun x o h n => let ⟨h1, n1⟩ := a x o h n; b x o h1 n1
/-- an inner run, of which no exception comes -/
theorem rd.inner {α β γ δ : Type} {Rel : (Addr → Prop) → Sto → List Addr → Hp → Hp → α → β → Prop} {Rel2 : (Addr → Prop) → Sto → List Addr → Hp → Hp → γ → δ → Prop} {Acc' : Addr → Prop} {f : Fns → Env → Sto → Res α} {ρ : Env} {μ0 : Sto} {H0 : Hp} {σ0 : L2.St} {g : α → Sto → Res γ} {Q : δ → Hp → Prop} {P : β → Hp → Prop}
    (S : Sim K Acc' μ ι H) (E : EnvR K (Liv Acc' μ ι) ι H ρ σ) (h : wp Rel2 K XC W Acc ι μ0 H0 σ0 ((f F ρ μ).nox.bind g) Q)
    (k : ∀ a μ' b H', Stp K Acc' ι μ H ι μ' H' → Rel Acc' μ' ι H H' a b → wp Rel2 K XC W Acc ι μ0 H0 σ0 (g a μ') Q → P b H') : rd K XC F W0 Rel f σ H P := by
  refine ⟨Acc', ι, ρ, μ, S, E, ?_⟩
  cases e : f F ρ μ with
  | ok a μ' => rw [e] at h; exact fun b H' t' rl => k a μ' b H' t' rl h
  | exc x μ' => rw [e] at h; exact h.elim
  | bad => rw [e] at h; exact h.elim
theorem lc_read {it : SI} {t : Tgt} {fi : SB} {fe : SE} {vs : List Nat} {Q : VK} (hsl : ∀ i ∈ t.slots, i ∈ vs) (h : rdE K XC F W (eLc it t fi fe vs) σ H Q) : tLc (rdI K XC F W it) (gT K t) (rdB K XC F W0 fi) (rdE K XC F W0 fe) vs σ H Q := by
  obtain ⟨Acc, ι, ρ, μ, S, E, h⟩ := h
  refine ⟨Acc, ι, ρ, μ, S, E, ?_⟩
  unfold eLc at h
  cases er : it F ρ μ with
  | bad => rw [er] at h; exact h
  | exc x μ1 => rw [er] at h; exact h
  | ok s μ1 =>
    rw [er] at h
    simp only [Res.bind] at h
    intro J H1 t1 jr Dl hD
    have S1 := t1.sim.more hD (.lst [])
    have m1 : Mv (Liv Acc μ1 ι) H1 (Liv (fun a => Acc a ∨ a = Dl) μ1 ι) (upd H1 Dl (.lst [])) := fun a u e l => by
      refine ⟨by rw [upd_ne (ne_of_none e hD)]; exact e, fun z => ?_⟩
      rcases z with z | z | z
      · exact l (.inl z)
      · exact l (.inr z)
      · subst z; rw [hD] at e; cases e
    have E1 : EnvR K (Liv Acc μ1 ι) ι H1 ρ σ := E.mv t1 S
    refine ⟨fun i m Hc => ∃ (μi : Sto) (accD : List D) (accV : List V), Stp K Acc ι μ H ι μi Hc ∧ Sim K (fun a => Acc a ∨ a = Dl) μi ι Hc ∧ Mv (Liv Acc μ1 ι) H1 (Liv (fun a => Acc a ∨ a = Dl) μi ι) Hc ∧ Hc Dl = some (.lst accV) ∧ accD.length ≤ i ∧
      Reps K (Liv (fun a => Acc a ∨ a = Dl) μi ι) Hc accD accV ∧ wp (relE K) K XC W Acc ι μ H σ ((lcLoop s (lcStep F t fi fe (wipeE ρ vs)) m i μi).bind fun ds μ2 => if (accD ++ ds).length ≤ LIM then .ok (.new (.lst (accD ++ ds))) μ2 else .bad) Q,
      ⟨s.len μ1 + 1, μ1, [], [], t1.trans (t1.sim.up hD _), S1, m1, upd_same, Nat.le_refl _, Reps.nil, h⟩, ?_⟩
    rintro i m Hc ⟨μi, accD, accV, tc, Sc, mc, hDl, hlen, racc, hw⟩
    cases m with
    | zero => exact hw.elim
    | succ m =>
      unfold lcLoop at hw
      cases ea : s.at μi with
      | none => rw [ea] at hw; exact hw.elim
      | some ds =>
        rw [ea] at hw
        simp only at hw
        have j := jr (fun a => Acc a ∨ a = Dl) ι μi Hc Sc mc (fun k a e => e) ds ea i
        cases ei : ds[i]? with
        | none =>
          rw [ei] at hw
          have hl : ds.length ≤ i := List.getElem?_eq_none_iff.mp ei
          refine .inl ⟨j.2 hl, ?_⟩
          simp only [Res.bind, List.append_nil] at hw
          by_cases hz : accD.length ≤ LIM
          · rw [if_pos hz] at hw
            refine hw (.ref Dl) Hc tc ⟨⟨Dl, rfl, t1.back hD, accV, hDl, ?_⟩, fun q e => by cases e; exact ⟨Sc, accV, hDl, racc⟩⟩
            exact Reps.mv (fun a o e n => ⟨e, fun z => n (z.imp id .inl)⟩) _ _ racc
          · rw [if_neg hz] at hw; exact hw.elim
        | some d =>
          rw [ei] at hw
          simp only at hw
          by_cases hLi : i < LIM
          case neg => rw [if_neg hLi] at hw; exact hw.elim
          rw [if_pos hLi] at hw
          obtain ⟨jg, jy⟩ := j.1 d ei
          refine .inr ⟨jg, fun Hn => ∃ (μn : Sto) (accD' : List D) (accV' : List V), Stp K Acc ι μ H ι μn Hn ∧ Sim K (fun a => Acc a ∨ a = Dl) μn ι Hn ∧ Mv (Liv Acc μ1 ι) H1 (Liv (fun a => Acc a ∨ a = Dl) μn ι) Hn ∧ Hn Dl = some (.lst accV') ∧ accD'.length ≤ i + 1 ∧
            Reps K (Liv (fun a => Acc a ∨ a = Dl) μn ι) Hn accD' accV' ∧ wp (relE K) K XC W Acc ι μ H σ ((lcLoop s (lcStep F t fi fe (wipeE ρ vs)) m (i + 1) μn).bind fun ds μ2 => if (accD' ++ ds).length ≤ LIM then .ok (.new (.lst (accD' ++ ds))) μ2 else .bad) Q,
            fun H' hn => ⟨m, Nat.lt_succ_self m, hn⟩, fun x Hy hy => ?_⟩
          obtain ⟨ty, ry⟩ := jy x Hy hy
          have my := ty.mv Sc
          have mcy := mc.trans my
          unfold lcStep at hw
          cases easg : asg t d (wipeE ρ vs) with
          | none => rw [easg] at hw; exact hw.elim
          | some ρ2 =>
            rw [easg] at hw
            simp only at hw
            refine gT_ok t d x (wipeE ρ vs) ρ2 (wipe σ vs) easg ry ((E1.wiped vs).mvM mcy) fun σ2 E2 w2 => ⟨?_, ?_⟩
            · rw [w2 vs hsl]
              have ww : ∀ (us : List Nat), (∀ i ∈ us, i ∈ vs) → wipe (wipe σ vs) us = wipe σ vs := by
                intro us
                induction us with
                | nil => intro _; rfl
                | cons u us ih =>
                  intro hu
                  show (wipe (wipe σ vs) us).set u none = _
                  rw [ih fun i hi => hu i (List.mem_cons_of_mem _ hi)]
                  have hm := hu u List.mem_cons_self
                  have : ∀ (xs : List Nat), u ∈ xs → (wipe σ xs).set u none = wipe σ xs := by
                    intro xs
                    induction xs with
                    | nil => intro h; exact absurd h (by simp)
                    | cons y ys ihy =>
                      intro h
                      show ((wipe σ ys).set y none).set u none = (wipe σ ys).set y none
                      by_cases e : y = u
                      · subst e; rw [List.set_set]
                      · rw [List.set_comm _ _ e, ihy (by rcases List.mem_cons.mp h with z | z; exact absurd z.symm e; exact z)]
                  exact this vs hm
              exact ww vs fun _ h => h
            · -- the tests
              have hw2 : wp (relE K) K XC W Acc ι μ H σ ((fi F ρ2 μi).nox.bind fun b μa => (match b with
                  | true => (fe F ρ2 μa).nox.bind fun v μ2 => match v.frz μ2 with
                    | some (x, μ3) => .ok (some x) μ3
                    | none => .bad
                  | false => .ok none μa : Res (Option D)).bind fun o μb => (lcLoop s (lcStep F t fi fe (wipeE ρ vs)) m (i + 1) μb).bind fun r μ2 => (match o with
                    | some x => .ok (x :: r) μ2
                    | none => .ok r μ2 : Res (List D)).bind fun ds μ2 => if (accD ++ ds).length ≤ LIM then .ok (.new (.lst (accD ++ ds))) μ2 else .bad) Q := by
                have bb : ∀ {α β γ : Type} (r : Res α) (f : α → Sto → Res β) (g : β → Sto → Res γ), (r.bind f).bind g = r.bind fun a μ => (f a μ).bind g := fun r f g => by cases r <;> rfl
                rw [bb, bb] at hw
                simp only [bb] at hw ⊢
                exact hw
              refine rd.inner ty.sim E2 hw2 fun b μa b' Ha ta ra ha => ?_
              have eb : b' = b := ra
              subst eb
              have tya := ty.trans ta
              have DL : ∀ {μx : Sto} {Hx : Hp}, Stp K (fun a => Acc a ∨ a = Dl) ι μi Hc ι μx Hx → Hx Dl = some (.lst accV) := fun {μx Hx} tx => tx.keep Dl _ hDl fun z => (Sc.acc Dl (.inr rfl)).1 z.mem
              cases b' with
              | false =>
                refine ⟨μa, accD, accV, tc.trans (tya.less fun a h => .inl h), tya.sim, mc.trans (tya.mv Sc), DL tya, Nat.le_succ_of_le hlen, Reps.mv (tya.mv Sc) _ _ racc, ?_⟩
                simp only [Res.bind] at ha ⊢
                cases el : lcLoop s (lcStep F t fi fe (wipeE ρ vs)) m (i + 1) μa with
                | bad => rw [el] at ha; exact ha
                | exc x μb => rw [el] at ha; exact ha
                | ok r μb => rw [el] at ha; exact ha
              | true =>
                simp only at ha
                have bb : ∀ {α β γ : Type} (r : Res α) (f : α → Sto → Res β) (g : β → Sto → Res γ), (r.bind f).bind g = r.bind fun a μ => (f a μ).bind g := fun r f g => by cases r <;> rfl
                rw [bb] at ha
                simp only [if_true]
                refine rd.inner ta.sim (E2.mv ta ty.sim) ha fun v μb y Hb tb rb hb => ?_
                have tyb := tya.trans tb
                cases ef : v.frz μb with
                | none => rw [ef] at hb; exact hb.elim
                | some p =>
                  obtain ⟨xd, μc⟩ := p
                  rw [ef] at hb
                  simp only [Res.bind] at hb
                  obtain ⟨tf, rx⟩ := frz_ok tb.sim (fun a ha => ta.sim.trk ha) ta.sim.accT rb.1 ef
                  have tyf := tyb.trans tf
                  refine ⟨accV, DL tyb, ?_, ?_⟩
                  · have := racc.len
                    rw [this]
                    have h2 : (LIM : Nat) ≤ sizeLine := by decide
                    omega
                  · obtain ⟨Sw, mw⟩ := tyf.sim.wr (.inr rfl : (fun a => Acc a ∨ a = Dl) Dl) (.lst (accV ++ [y]))
                    refine ⟨μc, accD ++ [xd], accV ++ [y], ?_, Sw, (mc.trans (tyf.mv Sc)).trans mw, upd_same, by rw [List.length_append]; exact Nat.succ_le_succ hlen, (Reps.mv ((tyf.mv Sc).trans mw) _ _ racc).app (Reps.cons (Rep.mv mw _ _ rx) Reps.nil), ?_⟩
                    · have tl := tc.trans (tyf.less (Acc := Acc) fun a h => .inl h)
                      refine ⟨Sw.less fun a h => .inl h, tl.pre, fun a o e n => ?_, fun a n => ?_, fun a z => tl.liv a z⟩
                      · have ne : a ≠ Dl := fun z => by subst z; rw [t1.back hD] at e; cases e
                        rw [upd_ne ne]
                        exact tl.keep a o e n
                      · by_cases e : a = Dl
                        · subst e; rw [upd_same]; simp
                        · rw [upd_ne e]; exact tl.trk a n
                    · cases el : lcLoop s (lcStep F t fi fe (wipeE ρ vs)) m (i + 1) μc with
                      | bad => rw [el] at hb; exact hb
                      | exc x μb => rw [el] at hb; exact hb
                      | ok r μd =>
                        rw [el] at hb
                        simp only [Res.bind, List.append_assoc, List.singleton_append] at hb ⊢
                        exact hb
end
end VM
/-! Statements. -/
namespace VM
open PySem L2 PyProof.Rows

def wpS (K : PySem.W.Frag) (XC : Nat → Addr) (W : WX) (Acc : Addr → Prop) (ι : List Addr) (μ : Sto) (H : Hp) (r : Res SO) (D : Ends) : Prop := match r with
  | .ok (.nx ρ') μ' => ∀ ι' H' σ', Stp K Acc ι μ H ι' μ' H' → EnvR K (Liv Acc μ' ι') ι' H' ρ' σ' → D.nx σ' H'
  | .ok (.bk ρ') μ' => ∀ ι' H' σ', Stp K Acc ι μ H ι' μ' H' → EnvR K (Liv Acc μ' ι') ι' H' ρ' σ' → D.bk σ' H'
  | .ok (.ct ρ') μ' => ∀ ι' H' σ', Stp K Acc ι μ H ι' μ' H' → EnvR K (Liv Acc μ' ι') ι' H' ρ' σ' → D.ct σ' H'
  | .ok (.rt v) μ' => ∀ ι' H' u, Stp K Acc ι μ H ι' μ' H' → EvR K (Liv Acc μ' ι') ι' H H' v u → OwnR K Acc μ' ι' H' v u → D.rt u H'
  | .exc x μ' => ∀ ι' H' c d σ', Stp K Acc ι μ H ι' μ' H' → ExcR K XC (Liv Acc μ' ι') H H' x c d → W c d σ' H'
  | .bad => False
def rdS (K : PySem.W.Frag) (XC : Nat → Addr) (F : Fns) (W : WX) (f : SS) : TS := fun D σ H =>
  ∃ (Acc : Addr → Prop) (ι : List Addr) (ρ : Env) (μ : Sto), Sim K Acc μ ι H ∧ EnvR K (Liv Acc μ ι) ι H ρ σ ∧ wpS K XC W Acc ι μ H (f F ρ μ) D

section
variable {K : PySem.W.Frag} {XC : Nat → Addr} {F : Fns} {W : WX} {Acc : Addr → Prop} {ι ι1 ι2 : List Addr} {μ μ1 μ2 : Sto} {H H0 H1 H2 : Hp} {σ : L2.St} {D : Ends}
theorem wpS.shift {r : Res SO} (t : Stp K Acc ι μ H ι1 μ1 H1) (h : wpS K XC W Acc ι μ H r D) : wpS K XC W Acc ι1 μ1 H1 r D := by
  cases r with
  | bad => exact h
  | exc x μ' => exact fun ι' H' c d σ' t' e => h ι' H' c d σ' (t.trans t') (e.back t)
  | ok o μ' =>
    cases o with
    | nx ρ' => exact fun ι' H' σ' t' e => h ι' H' σ' (t.trans t') e
    | bk ρ' => exact fun ι' H' σ' t' e => h ι' H' σ' (t.trans t') e
    | ct ρ' => exact fun ι' H' σ' t' e => h ι' H' σ' (t.trans t') e
    | rt v => exact fun ι' H' u t' e o => h ι' H' u (t.trans t') (EvR.back t e) o
theorem rdS.last {f : SS} {ρ : Env} (t : Stp K Acc ι μ H ι1 μ1 H1) (E : EnvR K (Liv Acc μ1 ι1) ι1 H1 ρ σ) (h : wpS K XC W Acc ι μ H (f F ρ μ1) D) : rdS K XC F W f D σ H1 := ⟨Acc, ι1, ρ, μ1, t.sim, E, wpS.shift t h⟩
/-- an expression at a statement's head -/
theorem rd.stm {α β : Type} {Rel : (Addr → Prop) → Sto → List Addr → Hp → Hp → α → β → Prop} {f : Fns → Env → Sto → Res α} {ρ : Env} {g : α → Sto → Res SO} {P : β → Hp → Prop}
    (t : Stp K Acc ι μ H ι1 μ1 H1) (E : EnvR K (Liv Acc μ1 ι1) ι1 H1 ρ σ) (h : wpS K XC W Acc ι μ H ((f F ρ μ1).bind g) D)
    (k : ∀ a μ' b H', Stp K Acc ι1 μ1 H1 ι1 μ' H' → Rel Acc μ' ι1 H1 H' a b → wpS K XC W Acc ι μ H (g a μ') D → P b H') : rd K XC F W Rel f σ H1 P := by
  refine ⟨Acc, ι1, ρ, μ1, t.sim, E, ?_⟩
  cases e : f F ρ μ1 with
  | ok a μ' => rw [e] at h; exact fun b H' t' rl => k a μ' b H' t' rl h
  | exc x μ' => rw [e] at h; exact fun c d H' t' rl => h ι1 H' c d σ (t.trans t') (rl.back t)
  | bad => rw [e] at h; exact h
/-- a new object becomes a cell -/
theorem Sim.grow (S0 : Sim K Acc μ ι H) (t : Stp K Acc ι μ H ι1 μ1 H1) {c : CV} {p : Addr} (n : H p = none) (ow : Sim K (fun a => Acc a ∨ a = p) μ1 ι1 H1) (r : CvR K (Liv (fun a => Acc a ∨ a = p) μ1 ι1) H1 c p) : Stp K Acc ι μ H (ι1 ++ [p]) (μ1 ++ [⟨true, c⟩]) H1 := by
  have pn : p ∉ ι1 := (ow.acc p (.inr rfl)).1
  have hl : ι1.length = μ1.length := t.sim.len
  have cl : ∀ a, Cel (μ1 ++ [⟨true, c⟩]) (ι1 ++ [p]) a → Cel μ1 ι1 a ∨ a = p := fun a ⟨k, c', e, l, h⟩ => by
    by_cases hk : k < μ1.length
    · rw [List.getElem?_append_left hk] at e
      rw [List.getElem?_append_left (by omega)] at h
      exact .inl ⟨k, c', e, l, h⟩
    · by_cases hk2 : k = μ1.length
      · subst hk2
        rw [← hl, List.getElem?_append_right (Nat.le_refl _), Nat.sub_self] at h
        exact .inr (by simpa using h.symm)
      · rw [List.getElem?_eq_none (by rw [List.length_append, List.length_singleton]; omega)] at e
        cases e
  have m : Mv (Liv (fun a => Acc a ∨ a = p) μ1 ι1) H1 (Liv Acc (μ1 ++ [⟨true, c⟩]) (ι1 ++ [p])) H1 := fun a o e nl => ⟨e, fun z => nl (by
    rcases z with z | z
    · rcases cl a z with z | z
      · exact .inl z
      · exact .inr (.inr z)
    · exact .inr (.inl z))⟩
  refine ⟨⟨by rw [List.length_append, List.length_append, hl] <;> rfl, ?_, fun a ha => ⟨fun z => ?_, (t.sim.acc a ha).2⟩, fun k c' e => ?_⟩, ?_, t.keep, t.trk, fun a z => ?_⟩
  · exact List.nodup_append.mpr ⟨t.sim.nd, by simp, fun a ha b hb e => pn (by rw [List.mem_singleton.mp hb] at e; rw [← e]; exact ha)⟩
  · rcases List.mem_append.mp z with z | z
    · exact (t.sim.acc a ha).1 z
    · have e : a = p := List.mem_singleton.mp z
      subst e
      exact (S0.acc a ha).2 n
  · by_cases hk : k < μ1.length
    · rw [List.getElem?_append_left hk] at e
      obtain ⟨a, e1, r1⟩ := ow.cell k c' e
      exact ⟨a, by rw [List.getElem?_append_left (by omega)]; exact e1, r1.mv m fun _ e => e⟩
    · by_cases hk2 : k = μ1.length
      · subst hk2
        rw [List.getElem?_append_right (Nat.le_refl _), Nat.sub_self] at e
        have e' : c' = ⟨true, c⟩ := by simpa using e.symm
        subst e'
        refine ⟨p, by rw [← hl, List.getElem?_append_right (Nat.le_refl _), Nat.sub_self]; rfl, ?_⟩
        exact r.mv m fun _ e => e
      · rw [List.getElem?_eq_none (by rw [List.length_append, List.length_singleton]; omega)] at e
        cases e
  · obtain ⟨ex, e, ne⟩ := t.pre
    refine ⟨ex ++ [p], by rw [e, List.append_assoc], fun a ha => ?_⟩
    rcases List.mem_append.mp ha with ha | ha
    · exact ne a ha
    · rw [List.mem_singleton.mp ha]; exact n
  · rcases cl a z with z | z
    · exact t.liv a z
    · subst z; exact .inr n
end

/-! ### 2. what a slot gets -/
/-- a value is bound: a new object becomes a cell -/
def EV.bnd (v : EV) (μ : Sto) : SV × Sto := match v with
  | .dat d => (.dat d, μ)
  | .cel k => (.cel k, μ)
  | .new c => (.cel μ.length, μ ++ [⟨true, c⟩])
section
variable {K : PySem.W.Frag} {XC : Nat → Addr} {F : Fns} {W : WX} {Acc : Addr → Prop} {ι ι1 ι2 : List Addr} {μ μ1 μ2 : Sto} {H H0 H1 H2 : Hp} {σ : L2.St} {D : Ends}
theorem bnd_ok {v : EV} {x : V} (S : Sim K Acc μ ι H) (t : Stp K Acc ι μ H ι μ1 H1) (r : EvR K (Liv Acc μ1 ι) ι H H1 v x) (o : OwnR K Acc μ1 ι H1 v x) :
    ∃ ι', Stp K Acc ι μ H ι' (v.bnd μ1).2 H1 ∧ SvR K (Liv Acc (v.bnd μ1).2 ι') ι' H1 (v.bnd μ1).1 x := by
  cases v with
  | dat d => exact ⟨ι, t, r⟩
  | cel k => exact ⟨ι, t, r⟩
  | new c =>
    obtain ⟨p, e, n, _⟩ := r
    subst e
    obtain ⟨ow, rr⟩ := o p rfl
    refine ⟨ι ++ [p], Sim.grow S t n ow rr, p, ?_, rfl⟩
    show (ι ++ [p])[μ1.length]? = some p
    rw [← t.sim.len, List.getElem?_append_right (Nat.le_refl _), Nat.sub_self]; rfl

/-! ### 3. statements -/
def sSeq (a b : SS) : SS := fun F ρ μ => match a F ρ μ with
  | .ok (.nx ρ1) μ1 => b F ρ1 μ1
  | r => r
def sPass : SS := fun _ ρ μ => .ok (.nx ρ) μ
def sBrk : SS := fun _ ρ μ => .ok (.bk ρ) μ
def sCnt : SS := fun _ ρ μ => .ok (.ct ρ) μ
def sNever : SS := fun _ _ _ => .bad
def sDrop (e : SE) : SS := fun F ρ μ => (e F ρ μ).bind fun _ μ1 => .ok (.nx ρ) μ1
def sRet (e : SE) : SS := fun F ρ μ => (e F ρ μ).bind fun v μ1 => .ok (.rt v) μ1
def sRetN : SS := fun _ _ μ => .ok (.rt (.dat .non)) μ
def sIf (c : SB) (a b : SS) : SS := fun F ρ μ => (c F ρ μ).bind fun t μ1 => match t with
  | true => a F ρ μ1
  | false => b F ρ μ1
def sSet (i : Nat) (e : SE) : SS := fun F ρ μ => (e F ρ μ).bind fun v μ1 => .ok (.nx (ρ.set i (some (v.bnd μ1).1))) (v.bnd μ1).2
def sPar (i j : Nat) (a b : SE) : SS := fun F ρ μ => (a F ρ μ).bind fun v μ1 => (b F ρ (v.bnd μ1).2).bind fun w μ2 =>
  .ok (.nx ((ρ.set i (some (v.bnd μ1).1)).set j (some (w.bnd μ2).1))) (w.bnd μ2).2
def sPar3 (i j l : Nat) (a b c : SE) : SS := fun F ρ μ => (a F ρ μ).bind fun v μ1 => (b F ρ (v.bnd μ1).2).bind fun w μ2 => (c F ρ (w.bnd μ2).2).bind fun u μ3 =>
  .ok (.nx (((ρ.set i (some (v.bnd μ1).1)).set j (some (w.bnd μ2).1)).set l (some (u.bnd μ3).1))) (u.bnd μ3).2
def whL (c : Env → Sto → Res Bool) (b : Env → Sto → Res SO) : Nat → Env → Sto → Res SO
  | 0, _, _ => .bad
  | n + 1, ρ, μ => (c ρ μ).bind fun t μ1 => match t with
    | true => match b ρ μ1 with
      | .ok (.nx ρ1) μ2 => whL c b n ρ1 μ2
      | .ok (.ct ρ1) μ2 => whL c b n ρ1 μ2
      | .ok (.bk ρ1) μ2 => .ok (.nx ρ1) μ2
      | r => r
    | false => .ok (.nx ρ) μ1
def sWhile (c : SB) (b : SS) : SS := fun F ρ μ => whL (c F) (b F) LIM ρ μ
end
section
variable {X : Cx} {XC : Nat → Addr} {F : Fns} {W : WX} {st : Stmt} {rest : List Stmt} {pos : Pos}
theorem wpS.k {K : PySem.W.Frag} {Acc : Addr → Prop} {ι ι1 : List Addr} {μ μ1 : Sto} {H H1 : Hp} {D : Ends} {f : SS} {ρ : Env} {σ : L2.St} (t : Stp K Acc ι μ H ι1 μ1 H1) (E : EnvR K (Liv Acc μ1 ι1) ι1 H1 ρ σ) (h : wpS K XC W Acc ι μ H (f F ρ μ1) D) : rdS K XC F W f D σ H1 := rdS.last t E h
theorem s_seq {a b : SS} (h1 : PS X st (rdS X.K XC F W a)) (h2 : PSs X rest (rdS X.K XC F W b)) : PSs X (st :: rest) (rdS X.K XC F W (sSeq a b)) :=
  PSsimp (pss_cons h1 h2) fun D σ H ⟨Acc, ι, ρ, μ, S, E, h⟩ => by
    refine ⟨Acc, ι, ρ, μ, S, E, ?_⟩
    unfold sSeq at h
    cases e : a F ρ μ with
    | bad => rw [e] at h; exact h
    | exc x μ1 => rw [e] at h; exact h
    | ok o μ1 =>
      rw [e] at h
      cases o with
      | nx ρ1 => exact fun ι' H' σ' t E' => wpS.k t E' h
      | rt v => exact h
      | bk ρ1 => exact h
      | ct ρ1 => exact h
theorem s_one {a : SS} (h1 : PS X st (rdS X.K XC F W a)) : PSs X [st] (rdS X.K XC F W a) := pss_one h1
theorem s_nil : PSs X [] (rdS X.K XC F W sPass) := PSsimp pss_nil fun D σ H ⟨Acc, ι, ρ, μ, S, E, h⟩ => h ι H σ (.refl S) E
theorem s_pass : PS X (.Pass pos) (rdS X.K XC F W sPass) := PSimp ps_pass fun D σ H ⟨Acc, ι, ρ, μ, S, E, h⟩ => h ι H σ (.refl S) E
theorem s_brk : PS X (.Break pos) (rdS X.K XC F W sBrk) := PSimp ps_break fun D σ H ⟨Acc, ι, ρ, μ, S, E, h⟩ => h ι H σ (.refl S) E
theorem s_cnt : PS X (.Continue pos) (rdS X.K XC F W sCnt) := PSimp ps_continue fun D σ H ⟨Acc, ι, ρ, μ, S, E, h⟩ => h ι H σ (.refl S) E
theorem s_never : PS X st (rdS X.K XC F W sNever) := PSimp ps_never fun D σ H ⟨Acc, ι, ρ, μ, S, E, h⟩ => h
theorem ss_never {sts : List Stmt} : PSs X sts (rdS X.K XC F W sNever) := PSsimp pss_never fun D σ H ⟨Acc, ι, ρ, μ, S, E, h⟩ => h
theorem s_doc {x j pos pos'} : PS X (.Expr (.Constant (.str x) j pos) pos') (rdS X.K XC F W sPass) := PSimp ps_doc fun D σ H ⟨Acc, ι, ρ, μ, S, E, h⟩ => h ι H σ (.refl S) E
theorem s_drop {e : Expr} {fe : SE} (he : PE X e (rdE X.K XC F W fe)) (hs : swapsWith e none pos.line X.env = pure false := by rfl) : PS X (.Expr e pos) (rdS X.K XC F W (sDrop fe)) :=
  PSimp (ps_expr he hs) fun D σ H ⟨Acc, ι, ρ, μ, S, E, h⟩ => by
    refine rd.stm (Stp.refl S) E h fun v μ1 b H1 t1 r1 h1 => ?_
    exact h1 ι H1 σ t1 (E.mv t1 S)
theorem s_ret {e : Expr} {fe : SE} (he : PE X e (rdE X.K XC F W fe)) : PS X (.Return (some e) pos) (rdS X.K XC F W (sRet fe)) :=
  PSimp (ps_ret he) fun D σ H ⟨Acc, ι, ρ, μ, S, E, h⟩ => by
    refine rd.stm (Stp.refl S) E h fun v μ1 b H1 t1 r1 h1 => ?_
    exact h1 ι H1 b t1 r1.1 r1.2
theorem s_retN : PS X (.Return none pos) (rdS X.K XC F W sRetN) := PSimp ps_retN fun D σ H ⟨Acc, ι, ρ, μ, S, E, h⟩ => h ι H V.non (.refl S) rfl trivial
theorem s_if {c : Expr} {a b : List Stmt} {fc : SB} {fa fb : SS} (hc : PT X c (rdB X.K XC F W fc)) (ha : PSs X a (rdS X.K XC F W fa)) (hb : PSs X b (rdS X.K XC F W fb)) : PS X (.If c a b pos) (rdS X.K XC F W (sIf fc fa fb)) :=
  PSimp (ps_if hc ha hb) fun D σ H ⟨Acc, ι, ρ, μ, S, E, h⟩ => by
    refine rd.stm (Stp.refl S) E h fun v μ1 b H1 t1 r1 h1 => ?_
    have r1 : b = v := r1
    subst r1
    cases b with
    | true => rw [if_pos rfl]; exact wpS.k t1 (E.mv t1 S) h1
    | false => rw [if_neg Bool.false_ne_true]; exact wpS.k t1 (E.mv t1 S) h1
theorem s_set {i : Nat} {x : Str} {e : Expr} {fe : SE} {pos' : Pos} (hN : X.N.Nodup) (hi : X.N[i]? = some x) (hx : Loc X.env.scope x) (he : PE X e (rdE X.K XC F W fe)) (hs : swapsWith e (some (.Name x pos')) pos.line X.env = pure false := by rfl) (hf : X.fn x = true ∨ X.env.scope.names.lookup x = some .local := by first | exact .inl rfl | exact .inr rfl | assumption) :
    PS X (.Assign [.Name x pos'] e pos) (rdS X.K XC F W (sSet i fe)) :=
  PSimp (ps_set hN hi hx he hs hf) fun D σ H ⟨Acc, ι, ρ, μ, S, E, h⟩ => by
    refine rd.stm (Stp.refl S) E h fun v μ1 b H1 t1 r1 h1 => ?_
    obtain ⟨ι', t', r'⟩ := bnd_ok S t1 r1.1 r1.2
    exact h1 ι' H1 _ t' ((E.mv t' S).set r')
theorem s_par {i j : Nat} {x y : Str} {a b : Expr} {fa fb : SE} {px py pt : Pos} {kt k2 pt2} (hc : X.calm = true) (hN : X.N.Nodup) (hi : X.N[i]? = some x) (hj : X.N[j]? = some y) (hij : i ≠ j)
    (hx : X.env.scope.names.lookup x = some .local) (hy : X.env.scope.names.lookup y = some .local) (ha : PE X a (rdE X.K XC F W fa)) (hb : PE X b (rdE X.K XC F W fb))
    (hw : swappedStores [.Tuple [.Name x px, .Name y py] kt pt] (.Tuple [a, b] k2 pt2) X.env = pure (some [x, y]))
    (h1 : starEach [a, b] X.env = (false, eval a X.env) :: starEach [b] X.env := by rfl) (h2 : starEach [b] X.env = (false, eval b X.env) :: starEach [] X.env := by rfl)
    (hs : swapsWithSole [.Tuple [.Name x px, .Name y py] kt pt] (.Tuple [a, b] k2 pt2) pos.line X.env = pure false := by rfl) :
    PS X (.Assign [.Tuple [.Name x px, .Name y py] kt pt] (.Tuple [a, b] k2 pt2) pos) (rdS X.K XC F W (sPar i j fa fb)) :=
  PSimp (ps_par hc hN hi hj hij hx hy (pa_cons ha (pa_cons hb pa_nil h2) h1) hw hs) fun D σ H ⟨Acc, ι, ρ, μ, S, E, h⟩ => by
    refine rd.stm (Stp.refl S) E h fun v μ1 c1 H1 t1 r1 h1 => ?_
    obtain ⟨ι1, t1', s1⟩ := bnd_ok S t1 r1.1 r1.2
    refine rd.stm t1' (E.mv t1' S) h1 fun w μ2 c2 H2 t2 r2 h2 => ?_
    obtain ⟨ι2, t2', s2⟩ := bnd_ok t1'.sim t2 r2.1 r2.2
    refine ⟨c1, c2, rfl, h2 ι2 H2 _ (t1'.trans t2') ?_⟩
    exact ((E.mv (t1'.trans t2') S).set (s1.mv t2' t1'.sim)).set s2
theorem s_par3 {i j l : Nat} {x y z : Str} {a b c : Expr} {fa fb fc : SE} {px py pz pt : Pos} {kt k2 pt2} (hc : X.calm = true) (hN : X.N.Nodup) (hi : X.N[i]? = some x) (hj : X.N[j]? = some y) (hl : X.N[l]? = some z) (hij : i ≠ j) (hil : i ≠ l) (hjl : j ≠ l)
    (hx : X.env.scope.names.lookup x = some .local) (hy : X.env.scope.names.lookup y = some .local) (hz : X.env.scope.names.lookup z = some .local) (ha : PE X a (rdE X.K XC F W fa)) (hb : PE X b (rdE X.K XC F W fb)) (hcc : PE X c (rdE X.K XC F W fc))
    (hw : swappedStores [.Tuple [.Name x px, .Name y py, .Name z pz] kt pt] (.Tuple [a, b, c] k2 pt2) X.env = pure (some [x, y, z]))
    (h1 : starEach [a, b, c] X.env = (false, eval a X.env) :: starEach [b, c] X.env := by rfl) (h2 : starEach [b, c] X.env = (false, eval b X.env) :: starEach [c] X.env := by rfl) (h3 : starEach [c] X.env = (false, eval c X.env) :: starEach [] X.env := by rfl)
    (hs : swapsWithSole [.Tuple [.Name x px, .Name y py, .Name z pz] kt pt] (.Tuple [a, b, c] k2 pt2) pos.line X.env = pure false := by rfl) :
    PS X (.Assign [.Tuple [.Name x px, .Name y py, .Name z pz] kt pt] (.Tuple [a, b, c] k2 pt2) pos) (rdS X.K XC F W (sPar3 i j l fa fb fc)) :=
  PSimp (ps_par3 hc hN hi hj hl hij hil hjl hx hy hz (pa_cons ha (pa_cons hb (pa_cons hcc pa_nil h3) h2) h1) hw hs) fun D σ H ⟨Acc, ι, ρ, μ, S, E, h⟩ => by
    refine rd.stm (Stp.refl S) E h fun v μ1 c1 H1 t1 r1 h1 => ?_
    obtain ⟨ι1, t1', s1⟩ := bnd_ok S t1 r1.1 r1.2
    refine rd.stm t1' (E.mv t1' S) h1 fun w μ2 c2 H2 t2 r2 h2 => ?_
    obtain ⟨ι2, t2', s2⟩ := bnd_ok t1'.sim t2 r2.1 r2.2
    have t12 := t1'.trans t2'
    refine rd.stm t12 (E.mv t12 S) h2 fun u μ3 c3 H3 t3 r3 h3 => ?_
    obtain ⟨ι3, t3', s3⟩ := bnd_ok t2'.sim t3 r3.1 r3.2
    refine ⟨c1, c2, c3, rfl, h3 ι3 H3 _ (t12.trans t3') ?_⟩
    exact (((E.mv (t12.trans t3') S).set (s1.mv (t2'.trans t3') t1'.sim)).set (s2.mv t3' t2'.sim)).set s3
theorem s_while {c : Expr} {body : List Stmt} {fc : SB} {fb : SS} (hp : PassesOwn (model X.prog X.w) X.A X.env X.xe) (hc : PT X c (rdB X.K XC F W fc)) (hb : PSs X body (rdS X.K XC F W fb)) : PS X (.While c body [] pos) (rdS X.K XC F W (sWhile fc fb)) :=
  PSimp (ps_while hp hc hb) fun D σ H ⟨Acc, ι, ρ, μ, S, E, h⟩ => by
    refine ⟨fun m σ H => ∃ (Acc : Addr → Prop) (ι : List Addr) (ρ : Env) (μ : Sto), Sim X.K Acc μ ι H ∧ EnvR X.K (Liv Acc μ ι) ι H ρ σ ∧ wpS X.K XC W Acc ι μ H (whL (fc F) (fb F) m ρ μ) D, ⟨LIM, Acc, ι, ρ, μ, S, E, h⟩, ?_⟩
    rintro m σ H ⟨Acc, ι, ρ, μ, S, E, h⟩
    cases m with
    | zero => exact h.elim
    | succ m =>
      unfold whL at h
      refine rd.stm (f := fc) (Stp.refl S) E h fun v μ1 b H1 t1 r1 h1 => ?_
      have r1 : b = v := r1
      subst r1
      cases b with
      | false => rw [if_neg Bool.false_ne_true]; exact h1 ι H1 σ t1 (E.mv t1 S)
      | true =>
        rw [if_pos rfl]
        refine ⟨fun σ' H' => ∃ (Acc : Addr → Prop) (ι : List Addr) (ρ : Env) (μ : Sto), Sim X.K Acc μ ι H' ∧ EnvR X.K (Liv Acc μ ι) ι H' ρ σ' ∧ wpS X.K XC W Acc ι μ H' (whL (fc F) (fb F) m ρ μ) D, fun σ' H' q => ⟨m, Nat.lt_succ_self m, q⟩, ?_⟩
        refine ⟨Acc, ι, ρ, μ1, t1.sim, E.mv t1 S, ?_⟩
        replace h1 := wpS.shift t1 h1
        simp only at h1
        cases e : fb F ρ μ1 with
        | bad => rw [e] at h1; exact h1
        | exc x μ2 => rw [e] at h1; exact h1
        | ok o μ2 =>
          rw [e] at h1
          cases o with
          | rt v => exact h1
          | bk ρ2 => exact fun ι' H' σ' t' E' => h1 ι' H' σ' t' E'
          | nx ρ2 => exact fun ι' H' σ' t' E' => ⟨Acc, ι', ρ2, μ2, t'.sim, E', wpS.shift t' h1⟩
          | ct ρ2 => exact fun ι' H' σ' t' E' => ⟨Acc, ι', ρ2, μ2, t'.sim, E', wpS.shift t' h1⟩
end
end VM
/-! Stores into cells; targets; the for loop; methods of lists and dicts. -/
namespace VM
open PySem L2 PyProof.Rows

/-! ### 1. a live cell is written -/
section
variable {K : PySem.W.Frag} {Acc : Addr → Prop} {ι : List Addr} {μ : Sto} {H : Hp}
theorem Sim.put (S : Sim K Acc μ ι H) {k : Nat} {c : Cell} {a : Addr} {c' : CV} {o : HO} (hc : μ[k]? = some c) (hl : c.live = true) (ha : ι[k]? = some a)
    (r : ∀ H', Mv (Liv Acc μ ι) H (Liv Acc μ ι) H' → H' a = some o → CvR K (Liv Acc μ ι) H' c' a) : Stp K Acc ι μ H ι (μ.set k ⟨true, c'⟩) (upd H a o) := by
  have hk : k < μ.length := (List.getElem?_eq_some_iff.mp hc).1
  have la : Cel μ ι a := ⟨k, c, hc, hl, ha⟩
  have le : ∀ b, Cel (μ.set k ⟨true, c'⟩) ι b ↔ Cel μ ι b := fun b => by
    constructor
    · rintro ⟨j, d, e, l, h⟩
      by_cases hj : k = j
      · subst hj
        exact ⟨k, c, hc, hl, h⟩
      · rw [List.getElem?_set_ne hj] at e
        exact ⟨j, d, e, l, h⟩
    · rintro ⟨j, d, e, l, h⟩
      by_cases hj : k = j
      · subst hj
        exact ⟨k, _, List.getElem?_set_self hk, rfl, h⟩
      · exact ⟨j, d, by rw [List.getElem?_set_ne hj]; exact e, l, h⟩
  have kp : ∀ b u, H b = some u → b ≠ a → upd H a o b = some u := fun b u e n => by rw [upd_ne n]; exact e
  have m : Mv (Liv Acc μ ι) H (Liv Acc μ ι) (upd H a o) := fun b u e n => ⟨kp b u e fun z => n (.inl (z ▸ la)), n⟩
  have m' : Mv (Liv Acc μ ι) (upd H a o) (Liv Acc (μ.set k ⟨true, c'⟩) ι) (upd H a o) := fun b u e n => ⟨e, fun z => n (z.imp (fun z => (le b).mp z) id)⟩
  have tk : ∀ b, H b ≠ none → upd H a o b ≠ none := fun b h => by
    by_cases e : b = a
    · subst e; rw [upd_same]; simp
    · rw [upd_ne e]; exact h
  refine ⟨⟨by rw [List.length_set]; exact S.len, S.nd, fun b h => ⟨(S.acc b h).1, tk b (S.acc b h).2⟩, fun j d e => ?_⟩, ⟨[], by simp, by simp⟩, fun b u e n => kp b u e fun z => n (z ▸ la), tk, fun b h => .inl ((le b).mp h)⟩
  by_cases hj : k = j
  · subst hj
    rw [List.getElem?_set_self hk] at e
    cases e
    exact ⟨a, ha, (r _ m upd_same).mv m' fun _ e => e⟩
  · rw [List.getElem?_set_ne hj] at e
    obtain ⟨b, e1, r1⟩ := S.cell j d e
    refine ⟨b, e1, (r1.mv m fun u hu => kp b u hu ?_).mv m' fun _ e => e⟩
    rintro rfl
    have hi : k < ι.length := (List.getElem?_eq_some_iff.mp ha).1
    exact hj ((List.getElem?_inj hi S.nd).mp (ha.trans e1.symm))
end

/-! ### 2. targets -/
abbrev SG := D → Fns → Env → Sto → Res Env
def wpG (K : PySem.W.Frag) (XC : Nat → Addr) (W : WX) (Acc : Addr → Prop) (ι : List Addr) (μ : Sto) (H : Hp) (r : Res Env) (Q : L2.St → Hp → Prop) : Prop := match r with
  | .ok ρ' μ' => ∀ σ' H', Stp K Acc ι μ H ι μ' H' → EnvR K (Liv Acc μ' ι) ι H' ρ' σ' → Q σ' H'
  | .exc x μ' => ∀ c d σ' H', Stp K Acc ι μ H ι μ' H' → ExcR K XC (Liv Acc μ' ι) H H' x c d → W c d σ' H'
  | .bad => False
def rdG (K : PySem.W.Frag) (XC : Nat → Addr) (F : Fns) (W : WX) (g : SG) : TG := fun v σ H Q =>
  ∃ (Acc : Addr → Prop) (ι : List Addr) (ρ : Env) (μ : Sto) (d : D), Sim K Acc μ ι H ∧ EnvR K (Liv Acc μ ι) ι H ρ σ ∧ Rep K (Liv Acc μ ι) H d v ∧ wpG K XC W Acc ι μ H (g d F ρ μ) Q
def sgs : List SG → List D → Fns → Env → Sto → Res Env
  | [], [], _, ρ, μ => .ok ρ μ
  | g :: gs, d :: ds, F, ρ, μ => (g d F ρ μ).bind fun ρ1 μ1 => sgs gs ds F ρ1 μ1
  | _, _, _, _, _ => .bad
def rdGs (K : PySem.W.Frag) (XC : Nat → Addr) (F : Fns) (W : WX) (gs : List SG) : TGs := fun vs σ H Q =>
  ∃ (Acc : Addr → Prop) (ι : List Addr) (ρ : Env) (μ : Sto) (ds : List D), Sim K Acc μ ι H ∧ EnvR K (Liv Acc μ ι) ι H ρ σ ∧ Reps K (Liv Acc μ ι) H ds vs ∧ wpG K XC W Acc ι μ H (sgs gs ds F ρ μ) Q
def gNm (i : Nat) : SG := fun d _ ρ μ => .ok (ρ.set i (some (.dat d))) μ
def gTp (gs : List SG) : SG := fun d F ρ μ => match d with
  | .tup ds => if ds.length = gs.length then sgs gs ds F ρ μ else .bad
  | _ => .bad
/-- the store of one place -/
def putAt (c : CV) (i d : D) : Option CV := match c, i with
  | .lst ds, .int k => match ixN ds.length k with
    | some j => some (.lst (ds.set j d))
    | none => none
  | .dic ks ds, i => match i.key with
    | some k => if ndK ks && decide (ks.length < LIM) then some (.dic (dput ks ds k d).1 (dput ks ds k d).2) else none
    | none => none
  | _, _ => none
def gSb (o i : SE) : SG := fun d F ρ μ => (o F ρ μ).bind fun v μ1 => (i F ρ μ1).bind fun w μ2 => match v with
  | .cel k => match w.see μ2, μ2[k]? with
    | some iv, some c => match c.live, putAt c.val iv d with
      | true, some c' => .ok ρ (μ2.set k ⟨true, c'⟩)
      | _, _ => .bad
    | _, _ => .bad
  | _ => .bad
def sAsg (e : SE) (g : SG) : SS := fun F ρ μ => (e F ρ μ).bind fun v μ1 => match v.frz μ1 with
  | some (d, μ2) => (g d F ρ μ2).bind fun ρ1 μ3 => .ok (.nx ρ1) μ3
  | none => .bad

def rSetLD : TSet := fun o i v H Q => rSetL o i v H Q ∨ rSetD o i v H Q
theorem set_ld {X : Cx} (hu : X.A.units + 1 < cLine) : PSet X rSetLD := fun pins s σ H o i v ov iv u Q I ro ri rv h =>
  h.elim (fun h => set_list pins s σ H o i v ov iv u Q I ro ri rv h) fun h => set_dict hu pins s σ H o i v ov iv u Q I ro ri rv h
theorem putAt_ok {K : PySem.W.Frag} {L : Addr → Prop} {H : Hp} {c c' : CV} {i d : D} {a : Addr} {y v : V} (h : putAt c i d = some c') (r : CvR K L H c a) (ry : SeeR K L H i y) (rv : Rep K L H d v) :
    ∃ o', (∀ Q : Hp → Prop, Q (upd H a o') → rSetLD (.ref a) y v H Q) ∧ ∀ H', Mv L H L H' → H' a = some o' → CvR K L H' c' a := by
  cases c with
  | lst ds =>
    obtain ⟨vs, e, rr⟩ := r
    cases i <;> simp only [putAt, reduceCtorEq] at h
    rename_i k
    cases hj : ixN ds.length k with
    | none => rw [hj] at h; cases h
    | some j =>
      rw [hj] at h
      cases h
      have ey : y = .int k := by simpa only [SeeR, Rep] using ry
      subst ey
      exact ⟨.lst (vs.set j v), fun Q q => .inl ⟨a, vs, k, j, rfl, rfl, e, by rw [rr.len]; exact hj, q⟩, fun H' m e' => ⟨_, e', Reps.mv m _ _ (Reps.set j rr rv)⟩⟩
  | dic ks ds =>
    obtain ⟨vs, e, l, rr⟩ := r
    simp only [putAt] at h
    cases hk : i.key with
    | none => rw [hk] at h; cases h
    | some k =>
      rw [hk] at h
      simp only at h
      split at h
      case isFalse => cases h
      case isTrue hz =>
        cases h
        rw [Bool.and_eq_true, decide_eq_true_eq] at hz
        have ey := key_rep hk ry
        subst ey
        obtain ⟨ws, e1, r1⟩ := val_put (ndK_ok hz.1) l rr rv
        refine ⟨.dK (putK (ks.zip vs) k v), fun Q q => .inr ⟨a, _, rfl, DPut.k e ?_, q⟩, fun H' m e' => ⟨ws, by rw [e', e1], dput_len l, Reps.mv m _ _ r1⟩⟩
        rw [List.length_zip]
        have := lim_ok (Nat.le_of_lt hz.2)
        have h2 : LIM < sizeLine := by decide
        omega
section
variable {K : PySem.W.Frag} {XC : Nat → Addr} {F : Fns} {W : WX} {Acc : Addr → Prop} {ι ι1 ι2 : List Addr} {μ μ1 μ2 : Sto} {H H0 H1 H2 : Hp} {σ : L2.St}
/-- an expression in a target -/
theorem rd.tgt {α β : Type} {Rel : (Addr → Prop) → Sto → List Addr → Hp → Hp → α → β → Prop} {f : Fns → Env → Sto → Res α} {ρ : Env} {g : α → Sto → Res Env} {P : β → Hp → Prop} {Q : L2.St → Hp → Prop}
    (t : Stp K Acc ι μ H ι μ1 H1) (E : EnvR K (Liv Acc μ1 ι) ι H1 ρ σ) (h : wpG K XC W Acc ι μ H ((f F ρ μ1).bind g) Q)
    (k : ∀ a μ' b H', Stp K Acc ι μ1 H1 ι μ' H' → Rel Acc μ' ι H1 H' a b → wpG K XC W Acc ι μ H (g a μ') Q → P b H') : rd K XC F W Rel f σ H1 P := by
  refine ⟨Acc, ι, ρ, μ1, t.sim, E, ?_⟩
  cases e : f F ρ μ1 with
  | ok a μ' => rw [e] at h; exact fun b H' t' rl => k a μ' b H' t' rl h
  | exc x μ' => rw [e] at h; exact fun c d H' t' rl => h c d σ H' (t.trans t') (rl.back t)
  | bad => rw [e] at h; exact h
theorem wpG.shift {r : Res Env} {Q : L2.St → Hp → Prop} (t : Stp K Acc ι μ H ι μ1 H1) (h : wpG K XC W Acc ι μ H r Q) : wpG K XC W Acc ι μ1 H1 r Q := by
  cases r with
  | bad => exact h
  | exc x μ' => exact fun c d σ' H' t' e => h c d σ' H' (t.trans t') (e.back t)
  | ok o μ' => exact fun σ' H' t' e => h σ' H' (t.trans t') e
end
theorem PGimp {X : Cx} {e : Expr} {t t' : TG} (h : PG X e t) (i : ∀ v σ H Q, t' v σ H Q → t v σ H Q) : PG X e t' := ⟨fun pins s σ H v u Q I r q => h.run pins s σ H v u Q I r (i v σ H Q q)⟩
theorem PGsimp {X : Cx} {e : List Expr} {t t' : TGs} (h : PGs X e t) (i : ∀ v σ H Q, t' v σ H Q → t v σ H Q) : PGs X e t' := ⟨fun pins s σ H v u Q I r q => h.run pins s σ H v u Q I r (i v σ H Q q)⟩
section
variable {X : Cx} {XC : Nat → Addr} {F : Fns} {W : WX} {pos : Pos}
theorem g_nm {i : Nat} {x : Str} (hN : X.N.Nodup) (hi : X.N[i]? = some x) (hx : Loc X.env.scope x) (hf : X.fn x = true ∨ X.env.scope.names.lookup x = some .local := by first | exact .inl rfl | exact .inr rfl | assumption) : PG X (.Name x pos) (rdG X.K XC F W (gNm i)) :=
  PGimp (pg_name hN hi hx hf) fun v σ H Q ⟨Acc, ι, ρ, μ, d, S, E, r, h⟩ => h _ H (.refl S) (E.set (s := .dat d) r)
theorem gs_nil : PGs X [] (rdGs X.K XC F W []) :=
  PGsimp pgs_nil fun vs σ H Q ⟨Acc, ι, ρ, μ, ds, S, E, r, h⟩ => by
    cases ds with
    | nil => exact ⟨r.invN, h σ H (.refl S) E⟩
    | cons d ds => exact h.elim
theorem gs_cons {e : Expr} {es : List Expr} {g : SG} {gs : List SG} (h1 : PG X e (rdG X.K XC F W g)) (h2 : PGs X es (rdGs X.K XC F W gs))
    (hs : (assignEach (e :: es) X.env).map (·.2) = assign e X.env :: (assignEach es X.env).map (·.2) := by rfl) : PGs X (e :: es) (rdGs X.K XC F W (g :: gs)) :=
  PGsimp (pgs_cons h1 h2 hs) fun vs σ H Q ⟨Acc, ι, ρ, μ, ds, S, E, r, h⟩ => by
    cases ds with
    | nil => exact h.elim
    | cons d ds =>
      obtain ⟨v, rs, rfl, r1, r2⟩ := r.inv
      refine ⟨v, rs, rfl, Acc, ι, ρ, μ, d, S, E, r1, ?_⟩
      unfold sgs at h
      cases e : g d F ρ μ with
      | bad => rw [e] at h; exact h
      | exc x μ1 => rw [e] at h; exact h
      | ok ρ1 μ1 =>
        rw [e] at h
        exact fun σ' H' t' E' => ⟨Acc, ι, ρ1, μ1, ds, t'.sim, E', Reps.mv (t'.mv S) _ _ r2, wpG.shift t' h⟩
theorem g_tp {es : List Expr} {k : Nat} {gs : List SG} {n : Nat} (hc : X.calm = true) (h : PGs X es (rdGs X.K XC F W gs)) (hl : gs.length = n := by rfl)
    (hn : (assignEach es X.env).length = n := by rfl) (hst : (assignEach es X.env).findIdx? (·.1) = none := by rfl) : PG X (.Tuple es k pos) (rdG X.K XC F W (gTp gs)) :=
  PGimp (pg_tup hc h hn hst) fun v σ H Q ⟨Acc, ι, ρ, μ, d, S, E, r, h⟩ => by
    cases d <;> try exact h.elim
    rename_i ds
    simp only [gTp] at h
    split at h
    case isFalse => exact h.elim
    case isTrue hz =>
      simp only [Rep] at r
      obtain ⟨a, vs, rfl, t, r⟩ := r
      exact ⟨a, vs, rfl, t.sq, by rw [r.len, hz, hl], Acc, ι, ρ, μ, ds, S, E, r, h⟩
theorem g_sb {o i : Expr} {fo fi : SE} (hu : X.A.units + 1 < cLine) (ho : PE X o (rdE X.K XC F W fo)) (hi : PE X i (rdE X.K XC F W fi))
    (ha : ∀ v, assign (.Subscript o i pos) X.env v = (do
      let ov ← holding [v] (eval o X.env)
      let iv ← holding [v, ov] (eval i X.env)
      standAt pos
      holding [v, ov, iv] (setItem ov iv v)
      release [v, ov, iv] []) := by intro _; rfl) : PG X (.Subscript o i pos) (rdG X.K XC F W (gSb fo fi)) :=
  PGimp (pg_sub ho hi (set_ld hu) ha) fun v σ H Q ⟨Acc, ι, ρ, μ, d, S, E, r, h⟩ => by
    refine rd.tgt (Stp.refl S) E h fun a μ1 x H1 t1 r1 h1 => ?_
    refine rd.tgt t1 (E.mv t1 S) h1 fun b μ2 y H2 t2 r2 h2 => ?_
    have t12 := t1.trans t2
    cases a with
    | dat _ => exact h2.elim
    | new _ => exact h2.elim
    | cel k =>
      obtain ⟨ad, ek, ex⟩ := r1.1
      subst ex
      simp only at h2
      cases hs : b.see μ2 with
      | none => rw [hs] at h2; exact h2.elim
      | some iv =>
        cases hc : μ2[k]? with
        | none => rw [hs, hc] at h2; exact h2.elim
        | some c =>
          rw [hs, hc] at h2
          simp only at h2
          cases hl : c.live with
          | false => rw [hl] at h2; exact h2.elim
          | true =>
            cases hp : putAt c.val iv d with
            | none => rw [hl, hp] at h2; exact h2.elim
            | some c' =>
              rw [hl, hp] at h2
              simp only at h2
              obtain ⟨b2, e2, rc⟩ := t2.sim.cell k c hc
              rw [ek] at e2; cases e2
              obtain ⟨o', q1, q2⟩ := putAt_ok hp rc (see_ok t2.sim r2.1 hs) (Rep.mv (t12.mv S) _ _ r)
              have tp := t2.sim.put hc hl ek q2
              exact q1 _ (h2 σ _ (t12.trans tp) (E.mv (t12.trans tp) S))
theorem s_asg {tg e : Expr} {fe : SE} {g : SG} (he : PE X e (rdE X.K XC F W fe)) (hg : PG X tg (rdG X.K XC F W g)) (hs : swapsWithSole [tg] e pos.line X.env = pure false := by rfl) (hw : swappedStores [tg] e X.env = pure none := by rfl)
    (h1 : (assignEach [tg] X.env).map (·.2) = [assign tg X.env] := by rfl) : PS X (.Assign [tg] e pos) (rdS X.K XC F W (sAsg fe g)) :=
  PSimp (ps_asg he hg hs hw h1) fun D σ H ⟨Acc, ι, ρ, μ, S, E, h⟩ => by
    refine rd.stm (Stp.refl S) E h fun v μ1 x H1 t1 r1 h1 => ?_
    cases hz : v.frz μ1 with
    | none => rw [hz] at h1; exact h1.elim
    | some p =>
      obtain ⟨d, μ2⟩ := p
      rw [hz] at h1
      simp only at h1
      obtain ⟨t2, rd⟩ := frz_ok t1.sim (fun a h => S.trk h) (fun a h => (S.acc a h).2) r1.1 hz
      have t12 := t1.trans t2
      refine ⟨Acc, ι, ρ, μ2, d, t2.sim, E.mv t12 S, rd, ?_⟩
      cases e : g d F ρ μ2 with
      | bad => rw [e] at h1; exact h1
      | exc x μ3 => rw [e] at h1; exact fun c da σ' H' t' e' => h1 ι H' c da σ' (t12.trans t') (e'.back t12)
      | ok ρ1 μ3 => rw [e] at h1; exact fun σ' H' t' E' => h1 ι H' σ' (t12.trans t') E'
end
end VM
/-! The for loop; methods of lists and dicts. -/
namespace VM
open PySem L2 PyProof.Rows

def forL (F : Fns) (s : Src) (g : SG) (b : SS) : Nat → Nat → Env → Sto → Res SO
  | 0, _, _, _ => .bad
  | n + 1, i, ρ, μ => match s.at μ with
    | none => .bad
    | some ds => match ds[i]? with
      | none => .ok (.nx ρ) μ
      | some d => (g d F ρ μ).bind fun ρ1 μ1 => match b F ρ1 μ1 with
        | .ok (.nx ρ2) μ2 => forL F s g b n (i + 1) ρ2 μ2
        | .ok (.ct ρ2) μ2 => forL F s g b n (i + 1) ρ2 μ2
        | .ok (.bk ρ2) μ2 => .ok (.nx ρ2) μ2
        | r => r
def sFor (it : SI) (g : SG) (b : SS) : SS := fun F ρ μ => (it F ρ μ).bind fun s μ1 => forL F s g b (s.len μ1 + 1) 0 ρ μ1
section
variable {X : Cx} {XC : Nat → Addr} {F : Fns} {W : WX} {pos : Pos}
theorem s_for {tg iter : Expr} {body : List Stmt} {fi : SI} {g : SG} {fb : SS} (hp : PassesOwn (model X.prog X.w) X.A X.env X.xe) (hc : X.calm = true) (hi : PI X tg iter (rdI X.K XC F W fi)) (hg : PG X tg (rdG X.K XC F W g)) (hb : PSs X body (rdS X.K XC F W fb))
    (hs : ∀ x, foldedSetIterable iter X.env x = pure x := by intro _; rfl) : PS X (.For tg iter body [] pos) (rdS X.K XC F W (sFor fi g fb)) :=
  PSimp (ps_for hp hc hi hg hb hs) fun D σ H ⟨Acc, ι, ρ, μ, S, E, h⟩ => by
    refine ⟨Acc, ι, ρ, μ, S, E, ?_⟩
    unfold sFor at h
    cases e0 : fi F ρ μ with
    | bad => rw [e0] at h; exact h
    | exc x μ1 => rw [e0] at h; exact fun c d H' t e => h ι H' c d σ t e
    | ok s μ1 =>
      rw [e0] at h
      simp only [Res.bind] at h
      intro J H1 t1 jr
      refine ⟨fun i m σ H => ∃ (Acc' : Addr → Prop) (ι' : List Addr) (ρ' : Env) (μ' : Sto), Sim X.K Acc' μ' ι' H ∧ EnvR X.K (Liv Acc' μ' ι') ι' H ρ' σ ∧ Mv (Liv Acc μ1 ι) H1 (Liv Acc' μ' ι') H ∧ (∀ (k : Nat) a, ι[k]? = some a → ι'[k]? = some a) ∧
        wpS X.K XC W Acc' ι' μ' H (forL F s g fb m i ρ' μ') D, ⟨s.len μ1 + 1, Acc, ι, ρ, μ1, t1.sim, E.mv t1 S, fun a o e n => ⟨e, n⟩, fun k a e => e, wpS.shift t1 h⟩, ?_⟩
      rintro i m σ' H' ⟨Acc', ι', ρ', μ', S', E', m', pr, h'⟩
      cases m with
      | zero => exact h'.elim
      | succ m =>
        unfold forL at h'
        cases ea : s.at μ' with
        | none => rw [ea] at h'; exact h'.elim
        | some ds =>
          rw [ea] at h'
          simp only at h'
          have j := jr Acc' ι' μ' H' S' m' pr ds ea i
          cases ei : ds[i]? with
          | none =>
            rw [ei] at h'
            exact .inl ⟨j.2 (List.getElem?_eq_none_iff.mp ei), h' ι' H' σ' (.refl S') E'⟩
          | some d =>
            rw [ei] at h'
            simp only at h'
            obtain ⟨jg, jy⟩ := j.1 d ei
            refine .inr ⟨jg, fun σ H => ∃ (Acc' : Addr → Prop) (ι' : List Addr) (ρ' : Env) (μ' : Sto), Sim X.K Acc' μ' ι' H ∧ EnvR X.K (Liv Acc' μ' ι') ι' H ρ' σ ∧ Mv (Liv Acc μ1 ι) H1 (Liv Acc' μ' ι') H ∧ (∀ (k : Nat) a, ι[k]? = some a → ι'[k]? = some a) ∧
              wpS X.K XC W Acc' ι' μ' H (forL F s g fb m (i + 1) ρ' μ') D, fun σ2 H2 q => ⟨m, Nat.lt_succ_self m, q⟩, fun x Hy hy => ?_⟩
            obtain ⟨ty, ry⟩ := jy x Hy hy
            refine ⟨Acc', ι', ρ', μ', d, ty.sim, E'.mv ty S', ry, ?_⟩
            replace h' := wpS.shift ty h'
            have my := m'.trans (ty.mv S')
            cases eg : g d F ρ' μ' with
            | bad => rw [eg] at h'; exact h'
            | exc x2 μ2 => rw [eg] at h'; exact fun c d σ2 H2 t2 e2 => h' ι' H2 c d σ2 t2 e2
            | ok ρ2 μ2 =>
              rw [eg] at h'
              simp only [Res.bind] at h'
              intro σ2 H2 t2 E2
              refine ⟨Acc', ι', ρ2, μ2, t2.sim, E2, ?_⟩
              replace h' := wpS.shift t2 h'
              have my2 := my.trans (t2.mv ty.sim)
              cases eb : fb F ρ2 μ2 with
              | bad => rw [eb] at h'; exact h'
              | exc x3 μ3 => rw [eb] at h'; exact h'
              | ok o μ3 =>
                rw [eb] at h'
                cases o with
                | rt v => exact h'
                | bk ρ3 => exact fun ι3 H3 σ3 t3 E3 => h' ι3 H3 σ3 t3 E3
                | nx ρ3 => exact fun ι3 H3 σ3 t3 E3 => ⟨Acc', ι3, ρ3, μ3, t3.sim, E3, my2.trans (t3.mv t2.sim), fun k a e => t3.get (pr k a e), wpS.shift t3 h'⟩
                | ct ρ3 => exact fun ι3 H3 σ3 t3 E3 => ⟨Acc', ι3, ρ3, μ3, t3.sim, E3, my2.trans (t3.mv t2.sim), fun k a e => t3.get (pr k a e), wpS.shift t3 h'⟩
end

/-! ### methods of a list that change it -/
abbrev Act := List D → List D → Option (D × List D)
def MtSpec (K : PySem.W.Frag) (r : V → List V → Hp → VK → Prop) (act : Act) : Prop :=
  ∀ (L : Addr → Prop) (H : Hp) (a : Addr) (ds args : List D) (xs vs : List V) (rd : D) (ds' : List D), H a = some (.lst xs) → Reps K L H ds xs → Reps K L H args vs → act ds args = some (rd, ds') →
    ∃ rv xs', Reps K L H ds' xs' ∧ Rep K L H rd rv ∧ ∀ Q : VK, Q rv (upd H a (.lst xs')) → r (.ref a) vs H Q
def eCM (act : Act) (o : SE) (a : SA) : SE := fun F ρ μ => (o F ρ μ).bind fun v μ1 => match v with
  | .cel k => match μ1[k]? with
    | some c0 => match c0.val with
      | .lst _ => (a F ρ μ1).bind fun vs μ2 => match frzs vs μ2 with
        | some (args, μ3) => match μ3[k]? with
          | some c => match c.live, c.val with
            | true, .lst ds => match act ds args with
              | some (r, ds') => .ok (.dat r) (μ3.set k ⟨true, .lst ds'⟩)
              | none => .bad
            | _, _ => .bad
          | none => .bad
        | none => .bad
      | _ => .bad
    | none => .bad
  | _ => .bad
def aAppend : Act := fun ds args => match args with
  | [d] => if ds.length < LIM then some (.non, ds ++ [d]) else none
  | _ => none
def aPop : Act := fun ds args => match args with
  | [] => match ds[ds.length - 1]? with
    | some d => some (d, ds.dropLast)
    | none => none
  | _ => none
def aPopAt : Act := fun ds args => match args with
  | [.int i] => match ixN ds.length i with
    | some j => match ds[j]? with
      | some d => if ds.length ≤ LIM then some (d, ds.eraseIdx j) else none
      | none => none
    | none => none
  | _ => none
def aInsert : Act := fun ds args => match args with
  | [.int i, d] => if 0 ≤ i ∧ i < LIM ∧ ds.length < LIM then some (.non, ds.take i.toNat ++ [d] ++ ds.drop i.toNat) else none
  | _ => none
def aExtend : Act := fun ds args => match args with
  | [.lst es] => if ds.length + es.length ≤ LIM then some (.non, ds ++ es) else none
  | _ => none
section
variable {K : PySem.W.Frag}
theorem Reps.dropLast {L : Addr → Prop} {H : Hp} {ds : List D} {vs : List V} (h : Reps K L H ds vs) : Reps K L H ds.dropLast vs.dropLast := by
  rw [List.dropLast_eq_take, List.dropLast_eq_take, h.len]
  exact Reps.take _ h
theorem Reps.eraseIdx {L : Addr → Prop} {H : Hp} {ds : List D} {vs : List V} (i : Nat) (h : Reps K L H ds vs) : Reps K L H (ds.eraseIdx i) (vs.eraseIdx i) := by
  rw [List.eraseIdx_eq_take_drop_succ, List.eraseIdx_eq_take_drop_succ]
  exact (Reps.take _ h).app (Reps.drop _ h)
theorem Reps.one {L : Addr → Prop} {H : Hp} {d : D} {vs : List V} (h : Reps K L H [d] vs) : ∃ v, vs = [v] ∧ Rep K L H d v := by
  obtain ⟨v, r, e, h1, h2⟩ := h.inv
  exact ⟨v, by rw [e, h2.invN], h1⟩
theorem ms_append : MtSpec K rAppend aAppend := by
  intro L H a ds args xs vs rd ds' ha r ra h
  cases args with
  | nil => cases h
  | cons d t =>
    cases t with
    | cons _ _ => cases h
    | nil =>
      simp only [aAppend] at h
      split at h
      case isFalse => cases h
      case isTrue hz =>
        cases h
        obtain ⟨v, rfl, rv⟩ := ra.one
        refine ⟨.non, xs ++ [v], r.app (Reps.cons rv Reps.nil), rep_non, fun Q q => ⟨a, xs, v, rfl, rfl, ha, ?_, q⟩⟩
        rw [r.len]
        have h2 : LIM < sizeLine := by decide
        omega
theorem ms_pop : MtSpec K rPop aPop := by
  intro L H a ds args xs vs rd ds' ha r ra h
  cases args with
  | cons d t => cases h
  | nil =>
    simp only [aPop] at h
    cases hd : ds[ds.length - 1]? with
    | none => rw [hd] at h; cases h
    | some d =>
      rw [hd] at h
      cases h
      obtain ⟨v, hv, rv⟩ := r.get hd
      refine ⟨v, xs.dropLast, r.dropLast, rv, fun Q q => ⟨a, xs, v, rfl, ra.invN, ha, ?_, q⟩⟩
      rw [r.len]; exact hv
theorem ms_popAt : MtSpec K rPopAt aPopAt := by
  intro L H a ds args xs vs rd ds' ha r ra h
  cases args with
  | nil => cases h
  | cons d t =>
    cases t with
    | cons _ _ => cases d <;> cases h
    | nil =>
      cases d <;> try (cases h; done)
      rename_i i
      simp only [aPopAt] at h
      cases hi : ixN ds.length i with
      | none => rw [hi] at h; cases h
      | some j =>
        rw [hi] at h
        simp only at h
        cases hd : ds[j]? with
        | none => rw [hd] at h; cases h
        | some d =>
          rw [hd] at h
          simp only at h
          split at h
          case isFalse => cases h
          case isTrue hz =>
            cases h
            obtain ⟨v, hv, rv⟩ := r.get hd
            obtain ⟨w, rfl, rw'⟩ := ra.one
            have ew : w = .int i := by simpa only [Rep] using rw'
            subst ew
            obtain ⟨h1, h2, h3, h4⟩ := ixN_seq hi
            have hL : (LIM : Int) < 2 ^ 63 := by decide
            have hz2 : (ds.length : Int) ≤ LIM := by exact_mod_cast hz
            refine ⟨v, xs.eraseIdx j, r.eraseIdx j, rv, fun Q q => ⟨a, xs, i, j, v, rfl, rfl, ha, by omega, by omega, by rw [r.len]; exact h1, hv, q⟩⟩
theorem ms_insert : MtSpec K (fun x vs H Q => ∃ (l : Addr) (xs : List V) (i : Int) (y : V), x = .ref l ∧ vs = [.int i, y] ∧ H l = some (.lst xs) ∧ xs.length < sizeLine ∧ 0 ≤ i ∧ i < 2 ^ 63 ∧
    Q .non (upd H l (.lst (xs.take i.toNat ++ [y] ++ xs.drop i.toNat)))) aInsert := by
  intro L H a ds args xs vs rd ds' ha r ra h
  cases args with
  | nil => cases h
  | cons d0 t =>
    cases d0 <;> try (cases h; done)
    rename_i i
    cases t with
    | nil => cases h
    | cons d t =>
      cases t with
      | cons _ _ => cases h
      | nil =>
        simp only [aInsert] at h
        split at h
        case isFalse => cases h
        case isTrue hz =>
          cases h
          obtain ⟨w, rs, rfl, rw', r2⟩ := ra.inv
          obtain ⟨v, rfl, rv⟩ := r2.one
          have ew : w = .int i := by simpa only [Rep] using rw'
          subst ew
          have hL : (LIM : Int) < 2 ^ 63 := by decide
          have hL2 : LIM < sizeLine := by decide
          refine ⟨.non, _, ((Reps.take i.toNat r).app (Reps.cons rv Reps.nil)).app (Reps.drop i.toNat r), rep_non, fun Q q => ⟨a, xs, i, v, rfl, rfl, ha, ?_, hz.1, ?_, q⟩⟩
          · rw [r.len]; have := hz.2.2; omega
          · have := hz.2.1; omega
theorem ms_extend : MtSpec K rExtend aExtend := by
  intro L H a ds args xs vs rd ds' ha r ra h
  cases args with
  | nil => cases h
  | cons d0 t =>
    cases t with
    | cons _ _ => cases d0 <;> cases h
    | nil =>
      cases d0 <;> try (cases h; done)
      rename_i es
      simp only [aExtend] at h
      split at h
      case isFalse => cases h
      case isTrue hz =>
        cases h
        obtain ⟨v, rfl, rv⟩ := ra.one
        simp only [Rep] at rv
        obtain ⟨b, zs, rfl, hb, nb, rz⟩ := rv
        refine ⟨.non, xs ++ zs, r.app rz, rep_non, fun Q q => ⟨a, b, xs, zs, rfl, rfl, ha, hb, ?_, q⟩⟩
        rw [r.len, rz.len]
        exact lim_ok hz
end
section
variable {K : PySem.W.Frag} {XC : Nat → Addr} {F : Fns} {W : WX} {H : Hp} {σ : L2.St} {fo : SE} {fa : SA} {act : Act} {r : V → List V → Hp → VK → Prop} {Q : VK}
theorem cm_read (ms : MtSpec K r act) (h : rdE K XC F W (eCM act fo fa) σ H Q) : tBM K "list" r (rdE K XC F W fo) (rdA K XC F W fa) σ H Q := by
  obtain ⟨Acc, ι, ρ, μ, S, E, h⟩ := h
  refine rd.bind (Stp.refl S) E h fun a μ1 x H1 e1 t1 r1 h1 => ?_
  cases a with
  | dat _ => exact h1.elim
  | new _ => exact h1.elim
  | cel k =>
    obtain ⟨ad, ek, ex⟩ := r1.1
    subst ex
    simp only at h1
    cases hc0 : μ1[k]? with
    | none => rw [hc0] at h1; exact h1.elim
    | some c0 =>
      rw [hc0] at h1
      simp only at h1
      cases hv0 : c0.val with
      | dic _ _ => rw [hv0] at h1; exact h1.elim
      | lst ds0 =>
        rw [hv0] at h1
        simp only at h1
        obtain ⟨b0, e0, rc0⟩ := t1.sim.cell k c0 hc0
        rw [ek] at e0; cases e0
        rw [hv0] at rc0
        obtain ⟨xs0, hx0, _⟩ := rc0
        refine ⟨.inl ⟨rfl, xs0, SqL.of hx0⟩, ?_⟩
        refine rd.bind t1 (E.mv t1 S) h1 fun vs μ2 ys H2 e2 t2 r2 h2 => ?_
        have t12 := t1.trans t2
        cases hf : frzs vs μ2 with
        | none => rw [hf] at h2; exact h2.elim
        | some p =>
          obtain ⟨args, μ3⟩ := p
          rw [hf] at h2
          simp only at h2
          obtain ⟨t3, r3⟩ := frzs_ok t2.sim (fun a h => t1.sim.trk h) (fun a h => (t1.sim.acc a h).2) r2 hf
          cases hc : μ3[k]? with
          | none => rw [hc] at h2; exact h2.elim
          | some c =>
            rw [hc] at h2
            simp only at h2
            cases hl : c.live with
            | false => rw [hl] at h2; exact h2.elim
            | true =>
              cases hv : c.val with
              | dic _ _ => rw [hl, hv] at h2; exact h2.elim
              | lst ds =>
                rw [hl, hv] at h2
                simp only at h2
                cases hact : act ds args with
                | none => rw [hact] at h2; exact h2.elim
                | some p =>
                  obtain ⟨rd, ds'⟩ := p
                  rw [hact] at h2
                  simp only at h2
                  obtain ⟨b, eb, rc⟩ := t3.sim.cell k c hc
                  rw [ek] at eb; cases eb
                  rw [hv] at rc
                  obtain ⟨xs, hx, rx⟩ := rc
                  obtain ⟨rv, xs', q1, q2, q3⟩ := ms _ _ ad ds args xs ys rd ds' hx rx r3 hact
                  have tp := t3.sim.put (c' := .lst ds') hc hl ek (o := .lst xs') fun H' m e => ⟨xs', e, Reps.mv m _ _ q1⟩
                  refine q3 Q (h2 rv _ (t12.trans (t3.trans tp)) ⟨?_, trivial⟩)
                  exact Rep.mv (tp.mv t3.sim) _ _ q2
theorem cm_read0 (ms : MtSpec K r act) (h : rdE K XC F W (eCM act fo (evs [])) σ H Q) : tBM0 K "list" r (rdE K XC F W fo) σ H Q := by
  obtain ⟨Acc, ι, ρ, μ, S, E, h⟩ := h
  refine rd.bind (Stp.refl S) E h fun a μ1 x H1 e1 t1 r1 h1 => ?_
  cases a with
  | dat _ => exact h1.elim
  | new _ => exact h1.elim
  | cel k =>
    obtain ⟨ad, ek, ex⟩ := r1.1
    subst ex
    simp only at h1
    cases hc0 : μ1[k]? with
    | none => rw [hc0] at h1; exact h1.elim
    | some c0 =>
      rw [hc0] at h1
      simp only at h1
      cases hv0 : c0.val with
      | dic _ _ => rw [hv0] at h1; exact h1.elim
      | lst ds0 =>
        obtain ⟨b0, e0, rc0⟩ := t1.sim.cell k c0 hc0
        rw [ek] at e0; cases e0
        rw [hv0] at rc0
        obtain ⟨xs0, hx0, rx0⟩ := rc0
        refine ⟨.inl ⟨rfl, xs0, SqL.of hx0⟩, ?_⟩
        simp only [hv0, evs, Res.bind, frzs, hc0] at h1
        cases hl : c0.live with
        | false => rw [hl] at h1; exact h1.elim
        | true =>
          rw [hl] at h1
          simp only at h1
          cases hact : act ds0 [] with
          | none => rw [hact] at h1; exact h1.elim
          | some p =>
            obtain ⟨rd, ds'⟩ := p
            rw [hact] at h1
            simp only at h1
            obtain ⟨rv, xs', q1, q2, q3⟩ := ms _ _ ad ds0 [] xs0 [] rd ds' hx0 rx0 Reps.nil hact
            have tp := t1.sim.put (c' := .lst ds') hc0 hl ek (o := .lst xs') fun H' m e => ⟨xs', e, Reps.mv m _ _ q1⟩
            exact q3 Q (h1 rv _ (t1.trans tp) ⟨Rep.mv (tp.mv t1.sim) _ _ q2, trivial⟩)
end
end VM
/-! Methods: the rules. -/
namespace VM
open PySem L2 PyProof.Rows
section
variable {X : Cx} {XC : Nat → Addr} {F : Fns} {W : WX} {o e f : Expr} {fo fe ff : SE} {apos cpos pos : Pos}
theorem c_append (ho : PE X o (rdE X.K XC F W fo)) (he : PE X e (rdE X.K XC F W fe))
    (hbase : attributeBase o "append" X.env (eval o X.env) = eval o X.env := by rfl)
    (hfew : ((backTo cpos (starEach [e] X.env)).all (fun x => !x.1) && (backToKw cpos (keywordEach [] X.env)).all (fun x => x.1.isSome)
      && decide ([e].length + ([] : List Keyword).length + (if ([] : List Keyword).isEmpty then 0 else 1) < 30)) = true := by rfl)
    (hline : (apos.endLine == cpos.line) = true := by rfl) (hs : starEach [e] X.env = (false, eval e X.env) :: starEach [] X.env := by rfl) (hplain : (backTo cpos (starEach [] X.env)).any (·.1) = false := by rfl) :
    PE X (.Call (.Attribute o "append" apos) [e] [] cpos) (rdE X.K XC F W (eCM aAppend fo (evs [fe]))) :=
  PEimp (pe_bm PySem.F.plainAttrs_list PySem.F.slot_list_append PySem.F.type_list_append mt_append ho (ca_cons he ca_nil hs) hbase hfew hline hs hplain) fun σ H Q h => cm_read ms_append h
theorem c_extend (ho : PE X o (rdE X.K XC F W fo)) (he : PE X e (rdE X.K XC F W fe))
    (hbase : attributeBase o "extend" X.env (eval o X.env) = eval o X.env := by rfl)
    (hfew : ((backTo cpos (starEach [e] X.env)).all (fun x => !x.1) && (backToKw cpos (keywordEach [] X.env)).all (fun x => x.1.isSome)
      && decide ([e].length + ([] : List Keyword).length + (if ([] : List Keyword).isEmpty then 0 else 1) < 30)) = true := by rfl)
    (hline : (apos.endLine == cpos.line) = true := by rfl) (hs : starEach [e] X.env = (false, eval e X.env) :: starEach [] X.env := by rfl) (hplain : (backTo cpos (starEach [] X.env)).any (·.1) = false := by rfl) :
    PE X (.Call (.Attribute o "extend" apos) [e] [] cpos) (rdE X.K XC F W (eCM aExtend fo (evs [fe]))) :=
  PEimp (pe_bm PySem.F.plainAttrs_list PySem.F.slot_list_extend PySem.F.type_list_extend mt_extend ho (ca_cons he ca_nil hs) hbase hfew hline hs hplain) fun σ H Q h => cm_read ms_extend h
theorem c_popAt (ho : PE X o (rdE X.K XC F W fo)) (he : PE X e (rdE X.K XC F W fe))
    (hbase : attributeBase o "pop" X.env (eval o X.env) = eval o X.env := by rfl)
    (hfew : ((backTo cpos (starEach [e] X.env)).all (fun x => !x.1) && (backToKw cpos (keywordEach [] X.env)).all (fun x => x.1.isSome)
      && decide ([e].length + ([] : List Keyword).length + (if ([] : List Keyword).isEmpty then 0 else 1) < 30)) = true := by rfl)
    (hline : (apos.endLine == cpos.line) = true := by rfl) (hs : starEach [e] X.env = (false, eval e X.env) :: starEach [] X.env := by rfl) (hplain : (backTo cpos (starEach [] X.env)).any (·.1) = false := by rfl) :
    PE X (.Call (.Attribute o "pop" apos) [e] [] cpos) (rdE X.K XC F W (eCM aPopAt fo (evs [fe]))) :=
  PEimp (pe_bm PySem.F.plainAttrs_list PySem.F.slot_list_pop PySem.F.type_list_pop mt_popAt ho (ca_cons he ca_nil hs) hbase hfew hline hs hplain) fun σ H Q h => cm_read ms_popAt h
theorem c_pop (ho : PE X o (rdE X.K XC F W fo)) (hbase : attributeBase o "pop" X.env (eval o X.env) = eval o X.env := by rfl) (hline : (apos.endLine == cpos.line) = true := by rfl) :
    PE X (.Call (.Attribute o "pop" apos) [] [] cpos) (rdE X.K XC F W (eCM aPop fo (evs []))) :=
  PEimp (pe_bm0 PySem.F.plainAttrs_list PySem.F.slot_list_pop PySem.F.type_list_pop mt_pop ho hbase hline) fun σ H Q h => cm_read0 ms_pop h
theorem c_insert (ho : PE X o (rdE X.K XC F W fo)) (he : PE X e (rdE X.K XC F W fe)) (hf : PE X f (rdE X.K XC F W ff))
    (hbase : attributeBase o "insert" X.env (eval o X.env) = eval o X.env := by rfl)
    (hfew : ((backTo cpos (starEach [e, f] X.env)).all (fun x => !x.1) && (backToKw cpos (keywordEach [] X.env)).all (fun x => x.1.isSome)
      && decide ([e, f].length + ([] : List Keyword).length + (if ([] : List Keyword).isEmpty then 0 else 1) < 30)) = true := by rfl)
    (hline : (apos.endLine == cpos.line) = true := by rfl) (hs : starEach [e, f] X.env = (false, eval e X.env) :: starEach [f] X.env := by rfl) (hs2 : starEach [f] X.env = (false, eval f X.env) :: starEach [] X.env := by rfl) (hplain : (backTo cpos (starEach [f] X.env)).any (·.1) = false := by rfl) :
    PE X (.Call (.Attribute o "insert" apos) [e, f] [] cpos) (rdE X.K XC F W (eCM aInsert fo (evs [fe, ff]))) :=
  PEimp (pe_bm PySem.F.plainAttrs_list PySem.F.slot_list_insert PySem.F.type_list_insert mt_insert ho (ca_cons he (ca_cons hf ca_nil hs2) hs) hbase hfew hline hs hplain) fun σ H Q h => cm_read ms_insert h
end
end VM
/-! The promises of functions once more, where no repr is under way ahead (guards). -/
namespace VM
open PySem PySem.Spec L2 PyProof.Rows

structure FnG (P : Program) (w : World) (K : PySem.W.Frag) (mg : Str → Option Value) (base : Heap) (CX : CXT) (k : Nat) (f : Addr) (fd : FuncData) (ps : List Str) (sp : Sp) : Prop where
  lg : ∀ vs H Q E, sp vs H Q E → vs.length = ps.length
  go : ∀ (A : Around) (outer : List PySem.Env) (s : Shared) (H : Hp) (args : Args) (us : List Value) (vs : List V) (Q : VK) (E : XK), Room k A → A.guards = some [] → Env0 P w K mg base A outer s H → BindsTo s fd args (ps.zip us) → Vals vs us → sp vs H Q E → codeAny (model P w) A (.call (.ref f) args) (CR CX outer P w H s Q E) s

section
variable {X : Cx} {CX : CXT} {k : Nat} {f C : Addr} {fd : FuncData} {ps ks : List Str} {sp : Sp} {dvs : List V} {ds : List Value} {E : XK} {x m : Str} {p pos apos : Pos} {e o : Expr} {es : List Expr} {kws : List Keyword} {ta : TE} {t tk : TA} {g : List Value → List Value → List Value} {gV : List V → List V → List V}
theorem cr_ep {pins : List (Addr × Obj)} {σ : L2.St} {H : Hp} {s : Shared} {Q : VK} (hx : Passes CX X E) (I : Inv X pins σ H s) : ∀ (r : Result) (s' : Shared), CR CX X.stack X.prog X.w H s Q E r s' → match r with
    | .ok (.ret u) => EP X pins σ Q u s'
    | .ok _ => False
    | .error e => X.xe e s' := fun r s' hq => by
  cases r with
  | error e => exact hx pins σ H s e s' I hq
  | ok fl => cases fl <;> first | exact I.after hq | exact hq
theorem run_g {pins : List (Addr × Obj)} {σ : L2.St} {H : Hp} {s : Shared} {Q : VK} {us : List Value} {kw : List (Str × Value)} {ws : List Value} {vs : List V} (F : FnG X.prog X.w X.K X.mg X.base CX k f fd ps sp) (hr : Room k X.A) (hG : X.A.guards = some []) (hx : Passes CX X E)
    (I : Inv X pins σ H s) (hb : BindsTo s fd ⟨us, kw⟩ (ps.zip ws)) (r : Vals vs ws) (h : sp vs H Q E) : wpAny (model X.prog X.w) X.A (call (.ref f) us kw) (EP X pins σ Q) X.xe s :=
  wpAny_call (codeAny_mono (F.go X.A X.stack s H ⟨us, kw⟩ ws vs Q E hr hG I.env0 hb r h) fun r s' hq => by
    have z := cr_ep hx I r s' hq
    cases r with
    | error e => exact z
    | ok fl => cases fl <;> exact z)
theorem run_gp {pins : List (Addr × Obj)} {σ : L2.St} {H : Hp} {s : Shared} {Q : VK} {us : List Value} {vs : List V} (F : FnG X.prog X.w X.K X.mg X.base CX k f fd ps sp) (hr : Room k X.A) (hG : X.A.guards = some []) (hb : Binds X.K fd ps ds) (hd : Vals dvs ds) (hx : Passes CX X E)
    (I : Inv X pins σ H s) (r : Vals vs us) (h : sp (vs ++ dvs) H Q E) : wpAny (model X.prog X.w) X.A (call (.ref f) us) (EP X pins σ Q) X.xe s :=
  run_g F hr hG hx I (hb s us I.kIn (by rw [← (r.append hd).length]; exact F.lg _ _ _ _ h)) (r.append hd) h
theorem pe_g (F : FnG X.prog X.w X.K X.mg X.base CX k f fd ps sp) (hr : Room k X.A) (hG : X.A.guards = some []) (hg : Gl X x) (hm : X.mg x = some (.ref f)) (hk : PySem.W.keepIn X.K (.ref f) = true) (hb : Binds X.K fd ps ds) (hd : Vals dvs ds) (hx : Passes CX X E)
    (ha : PA X (e :: es) t) (hdb : (x == ("__debug__" : Str)) = false) (he : starEach (e :: es) X.env = (false, eval e X.env) :: starEach es X.env) (hpl : (backTo pos (starEach es X.env)).any (·.1) = false) :
    PE X (.Call (.Name x p) (e :: es) [] pos) (tCall sp dvs E t) := ⟨fun pins s σ H Q I h => wpAny_Call_Name_kw (ld_glob I hg hm (PySem.W.callWith_K (h₀ := X.base) I.ok.mod.kin hk
      (thn (ha.run pos pins s σ H _ I h) fun us s1 ⟨vs, H1, I1, r, q⟩ => ⟨I1.kIn, run_gp F hr hG hb hd hx I1 r q⟩) he hpl) hdb)⟩
theorem pe_g0 (F : FnG X.prog X.w X.K X.mg X.base CX k f fd ps sp) (hr : Room k X.A) (hG : X.A.guards = some []) (hg : Gl X x) (hm : X.mg x = some (.ref f)) (hk : PySem.W.keepIn X.K (.ref f) = true) (hb : Binds X.K fd ps ds) (hd : Vals dvs ds) (hx : Passes CX X E)
    (hdb : (x == ("__debug__" : Str)) = false) : PE X (.Call (.Name x p) [] [] pos) (tCall sp dvs E tNil) :=
  ⟨fun pins s σ H Q I h => wpAny_Call_Name_kw (ld_glob I hg hm (PySem.W.callWith_K0 I.kIn hk (run_gp (us := []) F hr hG hb hd hx I .nil h)) hdb)⟩
theorem pe_gK (F : FnG X.prog X.w X.K X.mg X.base CX k f fd ps sp) (hr : Room k X.A) (hG : X.A.guards = some []) (hg : Gl X x) (hm : X.mg x = some (.ref f)) (hk : PySem.W.keepIn X.K (.ref f) = true) (hb : KBinds X.K fd ps ks g gV) (hx : Passes CX X E)
    (ha : PA X (e :: es) t) (hkw : PK X kws tk) (hall : (backToKw pos (keywordEach kws X.env)).all (·.1.isSome) = true) (hks : (backToKw pos (keywordEach kws X.env)).filterMap (·.1) = ks)
    (hdb : (x == ("__debug__" : Str)) = false) (he : starEach (e :: es) X.env = (false, eval e X.env) :: starEach es X.env)
    (hpl : ((backTo pos (starEach (e :: es) X.env)).any (·.1) || (backToKw pos (keywordEach kws X.env)).any (·.1.isNone)) = false) : PE X (.Call (.Name x p) (e :: es) kws pos) (tCallK sp gV E t tk) :=
  ⟨fun pins s σ H Q I h => wpAny_Call_Name_kw (ld_glob I hg hm (PySem.W.callWith_KW (h₀ := X.base) I.ok.mod.kin hk hall (thn (ha.run pos pins s σ H _ I h) fun us s1 ⟨vs, H1, I1, r, q⟩ =>
    thn (hkw.run pos pins s1 σ H1 _ I1 q) fun ws s2 ⟨zs, H2, I2, rz, q2⟩ => ⟨I2.kIn, by
      rw [hks]
      exact run_g F hr hG hx I2 (hb.to s2 us ws I2.kIn (by rw [← (hb.rel r rz).length]; exact F.lg _ _ _ _ q2)) (hb.rel r rz) q2⟩) hpl he) hdb)⟩
theorem pe_gKz (F : FnG X.prog X.w X.K X.mg X.base CX k f fd ps sp) (hr : Room k X.A) (hG : X.A.guards = some []) (hg : Gl X x) (hm : X.mg x = some (.ref f)) (hk : PySem.W.keepIn X.K (.ref f) = true) (hb : KBinds X.K fd ps ks g gV) (hx : Passes CX X E)
    (hkw : PK X kws tk) (hall : (backToKw pos (keywordEach kws X.env)).all (·.1.isSome) = true) (hks : (backToKw pos (keywordEach kws X.env)).filterMap (·.1) = ks)
    (hdb : (x == ("__debug__" : Str)) = false) (hpl : ((backTo pos (starEach [] X.env)).any (·.1) || (backToKw pos (keywordEach kws X.env)).any (·.1.isNone)) = false) : PE X (.Call (.Name x p) [] kws pos) (tCallK sp gV E tNil tk) :=
  ⟨fun pins s σ H Q I h => wpAny_Call_Name_kw (ld_glob I hg hm (PySem.W.callWith_KW0 (h₀ := X.base) I.ok.mod.kin hk hall (thn (hkw.run pos pins s σ H _ I h) fun ws s2 ⟨zs, H2, I2, rz, q2⟩ => ⟨I2.kIn, by
      rw [hks]
      exact run_g F hr hG hx I2 (hb.to s2 [] ws I2.kIn (by rw [← (hb.rel .nil rz).length]; exact F.lg _ _ _ _ q2)) (hb.rel .nil rz) q2⟩) hpl) hdb)⟩
end

/-- a def, by its body, with the guards known -/
theorem fnG_of {CX : CXT} {P : Program} {w : World} {K : PySem.W.Frag} {mg : Str → Option Value} {base : Heap} {k : Nat} {x qual : Str} {st : Stmt} {f : Addr} {fd : FuncData} {N ps : List Str} {sp : Sp} (F : Fun K x qual st f fd) (S : FnScope N ps (defScope st))
    (len : ∀ vs H Q E, sp vs H Q E → vs.length = ps.length)
    (hbody : ∀ (cdv : Value) (A : Around) (outer : List PySem.Env) (s : Shared) (H : Hp) (vs : List V) (Q : VK) (E : XK), Room k (A.deeper (envOfC qual (defScope st) s.heap.objs.size f cdv)) → A.guards = some [] → sp vs H Q E →
      ∃ t, PSs (cxOf CX P w K mg base N qual (defScope st) f cdv A outer s H E) (defBody st) t ∧ t { nx := fun _ H' => Q .non H', rt := Q } (L2.start N vs) H) : FnG P w K mg base CX (k + 1) f fd ps sp := by
  obtain ⟨oc, od, kV, doc, pm, an, cdv, ct, osl, rfl, lk, hcd⟩ := F.ex
  refine ⟨len, fun A outer s H args us vs Q E hr hG e0 hb r hsp => ?_⟩
  have hl := len _ _ _ _ hsp
  have inH : K.In s.heap := e0.mod.kin.keeps fun b o e => (e0.bs b o e).1
  have nol : s.heap.NoLimit := e0.mod.nolimit.keeps fun b o e => (e0.bs b o e).1
  refine codeAny_call_function hr.depth (inH _ _ lk) rfl S.co S.gen rfl (PySem.W.codeRec_of inH hcd) (hb _ _ _ _ (wpAny_newFunctionEnv_cells S.kind (fun ⟨n, v⟩ hy => ?_) fun env he s1 x => ?_))
  · exact (S.par n (List.of_mem_zip hy).1).elim .inl fun q => .inr ⟨q, PySem.W.cellsFrom_some _ _ _ (.inl q)⟩
  subst he
  refine ⟨nol.keeps x.toInCall.keep, codeAny_func ?_⟩
  obtain ⟨t, ht, hq⟩ := hbody cdv A outer s H vs Q E (hr.deeper _) hG hsp
  have I := inv_start (CX := CX) (E := E) S hr.hd e0 hl r x
  refine wpAny_mono (ht.run [] s1 (L2.start N vs) H _ I hq) (fun fl s' hs => ?_) fun e s' hs => hs
  cases fl with
  | ret u =>
    obtain ⟨v, σ', H', J, rv, q⟩ := hs
    exact ⟨v, H', J.os, J.bare, J.base, J.hok, rv, q⟩
  | next =>
    obtain ⟨σ', H', J, q⟩ := hs
    exact ⟨.non, H', J.os, J.bare, J.base, J.hok, rfl, q⟩
  | brk =>
    obtain ⟨_, _, _, q⟩ := hs
    exact q.elim
  | cont =>
    obtain ⟨_, _, _, q⟩ := hs
    exact q.elim

/-! ### the law's own head -/
/-- a promise at the place from which the law is called -/
theorem top_call {P : Program} {w : World} {K : PySem.W.Frag} {mg mb : Str → Option Value} {CX : CXT} {k : Nat} {fa a : Addr} {fd : FuncData} {x : Str} {sp : Sp} {s₁ : Shared} {vs : List Value} {ns : List Int}
    (KX : K.In s₁.heap) (hns : s₁.heap.Ns mainGlobals mg) (hb : s₁.heap.Ns builtinsNs mb) (hbb : ∀ x : Str, x ≠ "__name__" → mb x = bootBuiltins x) (hlim : s₁.heap.NoLimit) (hg : s₁.gens = #[])
    (ha : s₁.heap.get? a = some { cls := .type "list", data := .seq vs.toArray }) (hi : IntsAre vs ns) (hl : ns.length ≤ sizeLine) (hr : Room k callerA)
    (F : ∀ base : Heap, K.In base → base.Ns mainGlobals mg → FnG P w K mg base CX k fa fd [x] sp) (hbind : ∀ (s : Shared) (u : Value), BindsTo s fd ⟨[u], []⟩ [(x, u)])
    (hsp : ∀ H : Hp, Only H → SqL K H a (ns.map V.int) → sp [.ref a] H (fun v _ => v = .bl true) fun _ _ _ => False)
    (hCX : ∀ H e s', CX [] H s₁ (fun _ _ _ => False) e s' → False) :
    codeAny (model P w) callerA (.call (.ref fa) ⟨[.ref a], []⟩) (fun r s' => r = .ok (.ret (.bool true)) ∧ OldK s₁.heap s'.heap ∧ s'.os = s₁.os ∧ AllBare s'.gens) s₁ := by
  have lenV := hi.length
  -- the heap without the script
  have main : ∀ H : Hp, Only H → SqL K H a (ns.map V.int) → HOk P w H s₁.heap → (∀ b, H b ≠ none → b = a) → (H a ≠ none → K.lookup a = none) → codeAny (model P w) callerA (.call (.ref fa) ⟨[.ref a], []⟩) (fun r s' => r = .ok (.ret (.bool true)) ∧ OldK s₁.heap s'.heap ∧ s'.os = s₁.os ∧ AllBare s'.gens) s₁ := by
    intro H hO hS hok hA hK
    have isA : ∀ {b : Addr}, H b ≠ none → b = a := fun {b} z => hA b z
    have hid : ∀ {b : Addr} {o : Obj}, s₁.heap.get? b = some o → H b = none → (hidT s₁.heap H).get? b = some o := fun e n => hidT_get e n
    have out : ∀ {b : Addr} {o : Obj} {es : Array DictEntry} {ep : Nat}, s₁.heap.get? b = some o → o.data = .dict es ep → H b = none := by
      intro b o es ep e d
      by_cases q : H b = none
      · exact q
      · have e' := isA q
        subst e'
        rw [ha] at e
        cases e
        exact nomatch (show Data.seq vs.toArray _ = Data.dict es ep from d)
    have ns' : ∀ {b : Addr} {m : Str → Option Value}, s₁.heap.Ns b m → (hidT s₁.heap H).Ns b m := by
      rintro b m ⟨o, es, ep, e, d, r⟩
      exact ⟨o, es, ep, hid e (out e d), d, r⟩
    have inb : K.In (hidT s₁.heap H) := by
      intro b o e
      refine hid (KX b o e) ?_
      by_cases q : H b = none
      · exact q
      · have e' := isA q
        subst e'
        rw [hK q] at e
        cases e
    have hM : Mod K mg (hidT s₁.heap H) := ⟨inb, ns' hns, ⟨mb, ns' hb, hbb⟩, let ⟨mc, h1, h2⟩ := hlim; ⟨mc, ns' h1, h2⟩⟩
    have e0 : Env0 P w K mg (hidT s₁.heap H) callerA [] s₁ H := ⟨rfl, hM, fun b o e => of_hidT e, Nat.le_of_eq (hidT_size _ _), trivial, fun b hb => absurd (show b ∈ ([] : List Addr) from hb) (by simp), hok, .of_eq hg⟩
    refine codeAny_mono ((F _ inb (ns' hns)).go callerA [] s₁ H ⟨[.ref a], []⟩ [.ref a] [.ref a] _ _ hr rfl e0 (hbind s₁ (.ref a)) (.cons rfl .nil) (hsp H hO hS)) fun r s' h => ?_
    cases r with
    | error e => exact (hCX H e s' h).elim
    | ok fl =>
      cases fl with
      | next => exact h.elim
      | brk => exact h.elim
      | cont => exact h.elim
      | ret u =>
        obtain ⟨v, H', os, bare, un, hok', r', q⟩ := h
        have q : v = .bl true := q
        subst q
        obtain rfl : u = Value.bool true := r'
        refine ⟨rfl, OldK.of_keep fun b o e => ?_, os, bare⟩
        by_cases q : H b = none
        · exact un.keep b o e q (by intro z; exact absurd (show b ∈ ([] : List Addr) from z) (by simp)) (by simp)
        · rcases hO b with z | ⟨ob, xs, z⟩
          · exact absurd z q
          · obtain ⟨e1, _⟩ := hok b _ z
            obtain ⟨e2, _⟩ := hok' b _ (un.frzs b ob _ z)
            rw [e] at e1
            cases e1
            exact e2
  cases hk : K.lookup a with
  | some o =>
    have e := KX a o hk
    rw [ha] at e
    cases e
    exact main (fun _ => none) (fun _ => .inl rfl) (.inr ⟨_, vs.toArray, _, hk, rfl, rfl, rfl, by rw [List.size_toArray, lenV]; exact hl, by simpa using vals_ints hi⟩) (fun b u z => nomatch (show (none : Option HO) = some u from z)) (fun b z => absurd rfl z) fun z => absurd rfl z
  | none =>
    have at1 : ∀ b, b = a → (if b = a then some (HO.frz { cls := .type "list", data := .seq vs.toArray } (.lst (ns.map V.int))) else none) = some (HO.frz { cls := .type "list", data := .seq vs.toArray } (.lst (ns.map V.int))) := fun b h => if_pos h
    have at0 : ∀ b, ¬ b = a → (if b = a then some (HO.frz { cls := .type "list", data := .seq vs.toArray } (.lst (ns.map V.int))) else none) = none := fun b h => if_neg h
    refine main (fun b => if b = a then some (.frz { cls := .type "list", data := .seq vs.toArray } (.lst (ns.map V.int))) else none) (fun b => ?_) (.inl (.inr ⟨_, at1 a rfl⟩)) (fun b u z => ?_) (fun b z => ?_) fun _ => hk
    · by_cases h : b = a
      · exact .inr ⟨_, _, at1 b h⟩
      · exact .inl (at0 b h)
    · by_cases h : b = a
      · have z' := (at1 b h).symm.trans z
        cases z'
        subst h
        exact ⟨ha, by rw [List.length_map]; exact hl, vs, _, vals_ints hi, ha⟩
      · exact nomatch (at0 b h).symm.trans z
    · by_cases h : b = a
      · exact h
      · exact absurd (at0 b h) z
theorem top_walk {l : PySem.W.OpenLaw} {n k : Nat} {q : Program} {loose : List Str} {XP : (Str → Option Value) → Heap → Prop} {YP : World → Heap → Prop} {d : DefRec} {K : Params → PySem.W.Frag} {CX : World → CXT} {sp : World → Sp} {x : Str}
    (hn : l.most = some n) (hn2 : n ≤ sizeLine) (hdf : d.params.defaults = []) (hr : Room k callerA) (hY : ∀ (w : World) (h : Heap), YP w h → (K w.params).In h)
    (F : ∀ (w : World) (mg : Str → Option Value) (fa : Addr) (h : Heap), (K w.params).In h → h.Ns mainGlobals mg → mg d.name = some (.ref fa) →
      ∃ fd : FuncData, (∀ (s : Shared) (u : Value), BindsTo s fd ⟨[u], []⟩ [(x, u)]) ∧ ∀ base : Heap, (K w.params).In base → base.Ns mainGlobals mg → FnG l.prog w (K w.params) mg base (CX w) k fa fd [x] (sp w))
    (hsp : ∀ (w : World) (H : Hp) (a : Addr) (ns : List Int), ns.length ≤ n → Only H → SqL (K w.params) H a (ns.map V.int) → sp w [.ref a] H (fun v _ => v = .bl true) fun _ _ _ => False)
    (hCX : ∀ (w : World) (H : Hp) (s : Shared) (e : Value) (s' : Shared), CX w [] H s (fun _ _ _ => False) e s' → False) :
    PySem.W.WalkO q loose XP YP l.row.toRowW d [] (fun f vs => PySem.call f vs) :=
  Att.attach_call hn hdf fun w s₀ s₁ mg mb fa o pm cd doc a vs ns G Y ho hd hcd hmg hobj hints hlen hg =>
    let ⟨fd, hb, hF⟩ := F w mg fa _ (hY w _ Y) G.T.g hmg
    top_call (hY w _ Y) G.T.g G.T.b G.T.builtins G.T.nolimit hg hobj hints (Nat.le_trans hlen hn2) hr hF hb (fun H hO hS => hsp w H a ns hlen hO hS) fun H e s' => hCX w H s₁ e s'
end VM
/-! Functions: what a call computes, and that each def keeps it. -/
namespace VM
open PySem L2 PyProof.Rows

/-! ### 1. the end of a call -/
/-- the callee's own cells are dropped -/
def EV.out (v : EV) (n : Nat) (μ : Sto) : Option EV := match v with
  | .cel k => if k < n then some (.cel k) else match μ[k]? with
    | some c => match c.live with
      | true => some (.new c.val)
      | false => some (.dat c.val.toD)
    | none => none
  | v => some v
def callEnd (n : Nat) (r : Res SO) : Res EV := match r with
  | .ok (.nx _) μ => .ok (.dat .non) (μ.take n)
  | .ok (.rt v) μ => match v.out n μ with
    | some v' => .ok v' (μ.take n)
    | none => .bad
  | .ok _ _ => .bad
  | .exc x μ => .exc x (μ.take n)
  | .bad => .bad
def startE (n : Nat) (vs : List SV) : Env := vs.map some ++ List.replicate (n - vs.length) none
def callF (nl : Nat) (b : SS) (F : Fns) (vs : List SV) (μ : Sto) : Res EV := callEnd μ.length (b F (startE nl vs) μ)
/-- the functions: how many slots, the body -/
abbrev Tab := List (Nat × SS)
def run (T : Tab) : Nat → Fns
  | 0 => fun _ _ _ => .bad
  | n + 1 => fun i vs μ => match T[i]? with
    | some (nl, b) => callF nl b (run T n) vs μ
    | none => .bad
section
variable {K : PySem.W.Frag} {XC : Nat → Addr} {F : Fns} {W : WX} {Acc : Addr → Prop} {ι ι' : List Addr} {μ μ' : Sto} {H H' : Hp}
theorem Cel.take {n : Nat} {a : Addr} (h : Cel (μ'.take n) ι a) (e : ∀ (k : Nat) (b : Addr), k < n → ι[k]? = some b → ι'[k]? = some b) : Cel μ' ι' a := by
  obtain ⟨k, c, h1, h2, h3⟩ := h
  have hk : k < n := by
    have := (List.getElem?_eq_some_iff.mp h1).1
    rw [List.length_take] at this; omega
  exact ⟨k, c, by rw [List.getElem?_take_of_lt hk] at h1; exact h1, h2, e k a hk h3⟩
theorem Stp.cut (S : Sim K Acc μ ι H) (t : Stp K Acc ι μ H ι' μ' H') : Stp K Acc ι μ H ι (μ'.take μ.length) H' ∧ Mv (Liv Acc μ' ι') H' (Liv Acc (μ'.take μ.length) ι) H' := by
  obtain ⟨ex, e, nx⟩ := t.pre
  have hl : ι'.length = μ'.length := t.sim.len
  have hl2 : μ.length ≤ μ'.length := by rw [← hl, e, List.length_append, S.len]; omega
  have eq : ∀ (k : Nat), k < μ.length → ι'[k]? = ι[k]? := fun k hk => by rw [e, List.getElem?_append_left (by rw [S.len]; exact hk)]
  have c : ∀ a, Cel (μ'.take μ.length) ι a → Cel μ' ι' a := fun a h => h.take fun k b hk hb => by rw [eq k hk]; exact hb
  have m : Mv (Liv Acc μ' ι') H' (Liv Acc (μ'.take μ.length) ι) H' := fun a o h n => ⟨h, fun z => n (z.imp (c a) id)⟩
  refine ⟨⟨⟨by rw [List.length_take, S.len]; omega, S.nd, fun a h => ⟨(S.acc a h).1, t.trk a (S.acc a h).2⟩, fun k d h => ?_⟩, ⟨[], by simp, by simp⟩, t.keep, t.trk, fun a h => t.liv a (c a h)⟩, m⟩
  have hk : k < μ.length := by
    have := (List.getElem?_eq_some_iff.mp h).1
    rw [List.length_take] at this; omega
  rw [List.getElem?_take_of_lt hk] at h
  obtain ⟨a, e1, r⟩ := t.sim.cell k d h
  exact ⟨a, by rw [← eq k hk]; exact e1, r.mv m fun _ h => h⟩
/-- what the value is, behind the call -/
theorem out_ok (S : Sim K Acc μ ι H) (t : Stp K Acc ι μ H ι' μ' H') {v v' : EV} {u : V} (r : EvR K (Liv Acc μ' ι') ι' H H' v u) (o : OwnR K Acc μ' ι' H' v u) (h : v.out μ.length μ' = some v') :
    relE K Acc (μ'.take μ.length) ι H H' v' u := by
  obtain ⟨tc, m⟩ := t.cut S
  obtain ⟨ex, e, nx⟩ := t.pre
  have eq : ∀ (k : Nat), k < μ.length → ι'[k]? = ι[k]? := fun k hk => by rw [e, List.getElem?_append_left (by rw [S.len]; exact hk)]
  have hl : ι'.length = μ'.length := t.sim.len
  have c : ∀ a, Cel (μ'.take μ.length) ι a → Cel μ' ι' a := fun a h => h.take fun k b hk hb => by rw [eq k hk]; exact hb
  have pre : ∀ (k : Nat) (a : Addr), ι'[k]? = some a → ¬ k < μ.length → a ∈ ex := fun k a ha hk => by
    rw [e, List.getElem?_append_right (by rw [S.len]; omega)] at ha
    exact List.mem_of_getElem? ha
  cases v with
  | dat d => cases h; exact ⟨Rep.mv m _ _ r, trivial⟩
  | new c0 =>
    cases h
    obtain ⟨p, ep, np, rp⟩ := r
    subst ep
    refine ⟨⟨p, rfl, np, rp.mv m fun _ h => h⟩, fun q eq' => ?_⟩
    cases eq'
    obtain ⟨ow, rr⟩ := o p rfl
    have m3 : Mv (Liv (fun a => Acc a ∨ a = p) μ' ι') H' (Liv (fun a => Acc a ∨ a = p) (μ'.take μ.length) ι) H' := fun b o h n => ⟨h, fun z => n (z.imp (c b) id)⟩
    have pn : p ∉ ι' := (ow.acc p (.inr rfl)).1
    refine ⟨⟨tc.sim.len, tc.sim.nd, fun b hb => ?_, fun j d hj => ?_⟩, rr.mv m3 fun _ h => h⟩
    · rcases hb with hb | rfl
      · exact tc.sim.acc b hb
      · exact ⟨fun z => pn (by rw [e]; exact List.mem_append_left _ z), (ow.acc b (.inr rfl)).2⟩
    · have hj2 : j < μ.length := by
        have := (List.getElem?_eq_some_iff.mp hj).1
        rw [List.length_take] at this; omega
      rw [List.getElem?_take_of_lt hj2] at hj
      obtain ⟨b, e1, r⟩ := ow.cell j d hj
      exact ⟨b, by rw [← eq j hj2]; exact e1, r.mv m3 fun _ h => h⟩
  | cel k =>
    obtain ⟨a, ea, eu⟩ := r
    subst eu
    simp only [EV.out] at h
    by_cases hk : k < μ.length
    · rw [if_pos hk] at h
      cases h
      exact ⟨⟨a, by rw [← eq k hk]; exact ea, rfl⟩, trivial⟩
    · rw [if_neg hk] at h
      cases hc : μ'[k]? with
      | none => rw [hc] at h; cases h
      | some cc =>
        rw [hc] at h
        simp only at h
        obtain ⟨b, eb, rb⟩ := t.sim.cell k cc hc
        rw [ea] at eb; cases eb
        have na := nx a (pre k a ea hk)
        have nι : a ∉ ι := fun z => S.trk z na
        have nA : ¬ Acc a := fun z => (S.acc a z).2 na
        cases hlv : cc.live with
        | false =>
          rw [hlv] at h
          cases h
          refine ⟨(rb.mv m fun _ h => h).rep fun z => ?_, trivial⟩
          rcases z with z | z
          · exact nι z.mem
          · exact nA z
        | true =>
          rw [hlv] at h
          cases h
          have la : Cel μ' ι' a := ⟨k, cc, hc, hlv, ea⟩
          have m2 : Mv (Liv Acc μ' ι') H' (Liv (fun b => Acc b ∨ b = a) (μ'.take μ.length) ι) H' := fun b o h n => ⟨h, fun z => n (by
            rcases z with z | z | z
            · exact .inl (c b z)
            · exact .inr z
            · subst z; exact .inl la)⟩
          refine ⟨⟨a, rfl, na, rb.mv m fun _ h => h⟩, fun q eq' => ?_⟩
          cases eq'
          refine ⟨⟨tc.sim.len, tc.sim.nd, fun b hb => ?_, fun j d hj => ?_⟩, rb.mv m2 fun _ h => h⟩
          · rcases hb with hb | rfl
            · exact tc.sim.acc b hb
            · exact ⟨nι, rb.trk⟩
          · have hj2 : j < μ.length := by
              have := (List.getElem?_eq_some_iff.mp hj).1
              rw [List.length_take] at this; omega
            rw [List.getElem?_take_of_lt hj2] at hj
            obtain ⟨b, e1, r⟩ := t.sim.cell j d hj
            exact ⟨b, by rw [← eq j hj2]; exact e1, r.mv m2 fun _ h => h⟩
end

/-! ### 2. arguments -/
/-- what is handed over: a new object stands still from then on -/
def EV.arg : EV → SV
  | .dat d => .dat d
  | .cel k => .cel k
  | .new c => .dat c.toD
def SvsR (K : PySem.W.Frag) (L : Addr → Prop) (ι : List Addr) (H : Hp) : List SV → List V → Prop
  | [], vs => vs = []
  | s :: ss, vs => ∃ v r, vs = v :: r ∧ SvR K L ι H s v ∧ SvsR K L ι H ss r
section
variable {K : PySem.W.Frag} {L : Addr → Prop} {ι : List Addr} {H : Hp}
theorem SvsR.len : ∀ {ss : List SV} {vs : List V}, SvsR K L ι H ss vs → vs.length = ss.length
  | [], vs, h => by
    have h : vs = [] := h
    rw [h] <;> rfl
  | s :: ss, vs, h => by
    obtain ⟨v, r, rfl, _, h2⟩ := h
    rw [List.length_cons, List.length_cons, SvsR.len h2]
theorem SvsR.get : ∀ {ss : List SV} {vs : List V} {i : Nat} {s : SV}, SvsR K L ι H ss vs → ss[i]? = some s → ∃ v, vs[i]? = some v ∧ SvR K L ι H s v
  | [], vs, i, s, h, e => by simp at e
  | x :: ss, vs, 0, s, h, e => by
    obtain ⟨v, r, rfl, h1, _⟩ := h
    simp at e; subst e
    exact ⟨v, rfl, h1⟩
  | x :: ss, vs, i + 1, s, h, e => by
    obtain ⟨v, r, rfl, h1, h2⟩ := h
    obtain ⟨w, q1, q2⟩ := SvsR.get (i := i) h2 (by simpa using e)
    exact ⟨w, by simpa using q1, q2⟩
theorem start_ok {N : List Str} {ss : List SV} {vs : List V} (h : SvsR K L ι H ss vs) : EnvR K L ι H (startE N.length ss) (L2.start N vs) := by
  have hl := h.len
  unfold startE L2.start
  refine ⟨by simp [hl], fun i s e => ?_⟩
  by_cases hi : i < ss.length
  · rw [List.getElem?_append_left (by simpa using hi), List.getElem?_map] at e
    cases hs : ss[i]? with
    | none => rw [hs] at e; cases e
    | some t =>
      rw [hs] at e
      cases e
      obtain ⟨v, hv, r⟩ := h.get hs
      exact ⟨v, by rw [List.getElem?_append_left (by simpa [hl] using hi), List.getElem?_map, hv]; rfl, r⟩
  · rw [List.getElem?_append_right (by simpa using hi), List.getElem?_replicate] at e
    split at e <;> cases e
theorem args_ok {Acc : Addr → Prop} {μ : Sto} {Hb : Hp} (hb : ∀ a ∈ ι, Hb a ≠ none) (hq : ∀ a, Acc a → Hb a ≠ none) : ∀ {es : List EV} {vs : List V}, EvsR K (Liv Acc μ ι) ι Hb H es vs → SvsR K (Liv Acc μ ι) ι H (es.map EV.arg) vs
  | [], vs, h => h
  | e :: es, vs, h => by
    obtain ⟨v, r, rfl, h1, h2⟩ := h
    refine ⟨v, r, rfl, ?_, args_ok hb hq h2⟩
    cases e with
    | dat d => exact h1
    | cel k => exact h1
    | new c =>
      obtain ⟨p, rfl, n, rp⟩ := h1
      exact rp.rep fun z => z.elim (fun z => hb p z.mem n) fun z => hq p z n
end

/-! ### 3. the promise -/
/-- what a call of the i-th function gives -/
def spF (K : PySem.W.Frag) (XC : Nat → Addr) (F : Fns) (i np : Nat) : Sp := fun vs H Q _ => vs.length = np ∧
  ∃ (Acc : Addr → Prop) (ι : List Addr) (μ : Sto) (ss : List SV), Sim K Acc μ ι H ∧ SvsR K (Liv Acc μ ι) ι H ss vs ∧ wp (relE K) K XC W0 Acc ι μ H [] (F i ss μ) Q
/-- a function of the table: the name, the parameters -/
structure FnR (P : Program) (w : World) (K : PySem.W.Frag) (mg : Str → Option Value) (base : Heap) (XC : Nat → Addr) (F : Fns) (n : Nat) (i : Nat) (x : Str) (ps : List Str) (st : Stmt) : Prop where
  ex : ∃ (f : Addr) (fd : FuncData), Fun K x x st f fd ∧ mg x = some (.ref f) ∧ Binds K fd ps [] ∧ FnG P w K mg base CX0 n f fd ps (spF K XC F i ps.length)
theorem fn_rd {P : Program} {w : World} {K : PySem.W.Frag} {mg : Str → Option Value} {base : Heap} {XC : Nat → Addr} {T : Tab} {n i : Nat} {x : Str} {st : Stmt} {f : Addr} {fd : FuncData} {N ps : List Str} {b : SS} {nl : Nat} (F : Fun K x x st f fd) (S : FnScope N ps (defScope st)) (hT : T[i]? = some (nl, b)) (hn : N.length = nl)
    (hb : ∀ (cdv : Value) (A : Around) (outer : List PySem.Env) (s : Shared) (H : Hp) (E : XK), Room n (A.deeper (envOfC x (defScope st) s.heap.objs.size f cdv)) → A.guards = some [] →
      PSs (cxOf CX0 P w K mg base N x (defScope st) f cdv A outer s H E).nox (defBody st) (rdS K XC (run T n) W0 b)) :
    FnG P w K mg base CX0 (n + 1) f fd ps (spF K XC (run T (n + 1)) i ps.length) := by
  refine fnG_of F S (fun vs H Q E h => h.1) fun cdv A outer s H vs Q E hr hG ⟨hl, Acc, ι, μ, ss, S0, R, h⟩ => ?_
  refine ⟨_, (hb cdv A outer s H E hr hG).nox, Acc, ι, startE nl ss, μ, S0, by rw [← hn]; exact start_ok R, ?_⟩
  have h : wp (relE K) K XC W0 Acc ι μ H [] (callEnd μ.length (b (run T n) (startE nl ss) μ)) Q := by
    unfold run at h
    rw [hT] at h
    exact h
  cases e : b (run T n) (startE nl ss) μ with
  | bad => rw [e] at h; exact h
  | exc x μ' => rw [e] at h; exact fun ι' H' c d σ' t r => h c d H' (t.cut S0).1 ⟨r.1, by
      have r2 := r.2
      cases d with
      | none => exact r2
      | some d => exact ⟨r2.1, let ⟨vs, q1, q2⟩ := r2.2; ⟨vs, q1, Reps.mv (t.cut S0).2 _ _ q2⟩⟩⟩
  | ok o μ' =>
    rw [e] at h
    cases o with
    | bk _ => exact h.elim
    | ct _ => exact h.elim
    | nx ρ' => exact fun ι' H' σ' t E' => h .non H' (t.cut S0).1 ⟨rfl, trivial⟩
    | rt v =>
      intro ι' H' u t r o
      simp only [callEnd] at h
      cases ev : v.out μ.length μ' with
      | none => rw [ev] at h; exact h.elim
      | some v' =>
        rw [ev] at h
        exact h u H' (t.cut S0).1 (out_ok S0 t r o ev)
/-- with no calls left nothing is promised -/
theorem fn_zero {P : Program} {w : World} {K : PySem.W.Frag} {mg : Str → Option Value} {base : Heap} {XC : Nat → Addr} {T : Tab} {i : Nat} {f : Addr} {fd : FuncData} {ps : List Str} :
    FnG P w K mg base CX0 0 f fd ps (spF K XC (run T 0) i ps.length) :=
  ⟨fun vs H Q E h => h.1, fun A outer s H args us vs Q E _ _ _ _ _ ⟨_, _, _, _, _, _, _, h⟩ => h.elim⟩

/-! ### 4. calls -/
def eCall (i : Nat) (a : SA) : SE := fun F ρ μ => (a F ρ μ).bind fun vs μ1 => F i (vs.map EV.arg) μ1
section
variable {X : Cx} {XC : Nat → Addr} {F : Fns} {n i : Nat} {x : Str} {ps : List Str} {st : Stmt} {p pos : Pos} {e : Expr} {es : List Expr}
theorem call_rd {K : PySem.W.Frag} {fa : SA} {σ : L2.St} {H : Hp} {Q : VK} {np : Nat} (h : rdE K XC F W0 (eCall i fa) σ H Q) (hl : ∀ ρ μ vs μ', fa F ρ μ = .ok vs μ' → vs.length = np) : tCall (spF K XC F i np) [] E0 (rdA K XC F W0 fa) σ H Q := by
  obtain ⟨Acc, ι, ρ, μ, S, E, h⟩ := h
  refine rd.bind (Stp.refl S) E h fun vs μ1 xs H1 e1 t1 r1 h1 => ?_
  rw [List.append_nil]
  have hlx : xs.length = vs.length := by
    clear h1 e1
    induction vs generalizing xs with
    | nil =>
      have r1 : xs = [] := r1
      rw [r1] <;> rfl
    | cons v vs ih =>
      obtain ⟨y, r, rfl, _, h2⟩ := r1
      rw [List.length_cons, List.length_cons, ih r h2]
  have ra := args_ok (fun a h => S.trk h) (fun a h => (S.acc a h).2) r1
  refine ⟨by rw [hlx]; exact hl _ _ _ _ e1, Acc, ι, μ1, _, t1.sim, ra, ?_⟩
  replace h1 := wp.shift t1 h1
  cases hc : F i (vs.map EV.arg) μ1 with
  | bad => rw [hc] at h1; exact h1
  | exc x μ' => rw [hc] at h1; exact h1
  | ok v μ' => rw [hc] at h1; exact h1
theorem c_call {fs : List SE} (G : FnR X.prog X.w X.K X.mg X.base XC F n i x ps st) (hr : Room n X.A) (hG : X.A.guards = some []) (hg : Gl X x) (ha : PA X (e :: es) (rdA X.K XC F W0 (evs fs))) (hl : fs.length = ps.length := by rfl)
    (hdb : (x == ("__debug__" : Str)) = false := by decide) (he : starEach (e :: es) X.env = (false, eval e X.env) :: starEach es X.env := by rfl) (hpl : (backTo pos (starEach es X.env)).any (·.1) = false := by rfl) :
    PE X (.Call (.Name x p) (e :: es) [] pos) (rdE X.K XC F W0 (eCall i (evs fs))) := by
  obtain ⟨f, fd, FF, hm, hb, G⟩ := G.ex
  exact PEimp (pe_g (E := E0) G hr hG hg hm FF.kp hb .nil pass0 ha hdb he hpl) fun σ H Q h => call_rd h fun ρ μ vs μ' h => by rw [evs_len _ _ _ _ _ _ h, hl]
theorem c_call0 (G : FnR X.prog X.w X.K X.mg X.base XC F n i x [] st) (hr : Room n X.A) (hG : X.A.guards = some []) (hg : Gl X x) (hdb : (x == ("__debug__" : Str)) = false := by decide) :
    PE X (.Call (.Name x p) [] [] pos) (rdE X.K XC F W0 (eCall i (evs []))) := by
  obtain ⟨f, fd, FF, hm, hb, G⟩ := G.ex
  refine PEimp (pe_g0 (E := E0) G hr hG hg hm FF.kp hb .nil pass0 hdb) fun σ H Q h => ?_
  obtain ⟨Acc, ι, ρ, μ, S, E, h⟩ := h
  refine ⟨rfl, Acc, ι, μ, [], S, rfl, ?_⟩
  simp only [eCall, evs, Res.bind, List.map_nil] at h
  cases hc : F i [] μ with
  | bad => rw [hc] at h; exact h
  | exc x μ' => rw [hc] at h; exact h
  | ok v μ' => rw [hc] at h; exact h
end

/-! ### 5. keywords -/
def gP {α : Type} (nu nk : Nat) (perm : List Nat) (us ws : List α) : List α := if us.length = nu ∧ ws.length = nk then perm.filterMap fun i => (us ++ ws)[i]? else []
theorem vals_pick {vs : List V} {us : List Value} (h : Vals vs us) : ∀ perm : List Nat, Vals (perm.filterMap fun i => vs[i]?) (perm.filterMap fun i => us[i]?)
  | [] => .nil
  | i :: perm => by
    rw [List.filterMap_cons, List.filterMap_cons]
    cases e : vs[i]? with
    | some v =>
      obtain ⟨u, hu, r⟩ := h.get e
      rw [hu]
      exact .cons r (vals_pick h perm)
    | none =>
      have : us[i]? = none := by
        rw [List.getElem?_eq_none_iff] at e ⊢
        rw [← h.length]; exact e
      rw [this]
      exact vals_pick h perm
theorem Fun.kbinds {K : PySem.W.Frag} {x qual : Str} {st : Stmt} {f : Addr} {fd : FuncData} {ps ks : List Str} (F : Fun K x qual st f fd) (nu nk : Nat) (perm : List Nat) (hp : ps.isEmpty = false)
    (h : ∀ (kV doc pm : Value) (an : Option Addr) (cdv ct : Value) (us ws : List Value), us.length = nu → ws.length = nk → bindArgs (PySem.W.fnOf x qual (defArgs st) (defBody st) (defScope st) .none kV doc pm an cdv ct) ⟨us, ks.zip ws⟩ = pure (ps.zip (perm.filterMap fun i => (us ++ ws)[i]?))) :
    KBinds K fd ps ks (gP nu nk perm) (gP nu nk perm) := by
  obtain ⟨oc, od, kV, doc, pm, an, cdv, ct, osl, rfl, lk, hcd⟩ := F.ex
  refine ⟨fun s us ws _ hl => ?_, fun {vs us zs ws} r rz => ?_⟩
  · unfold gP at hl ⊢
    by_cases c : us.length = nu ∧ ws.length = nk
    · rw [if_pos c]
      exact .of_eq (h kV doc pm an cdv ct us ws c.1 c.2)
    · rw [if_neg c] at hl
      cases ps with
      | nil => cases hp
      | cons _ _ => cases hl
  · unfold gP
    rw [r.length, rz.length]
    by_cases c : us.length = nu ∧ ws.length = nk
    · rw [if_pos c, if_pos c]
      exact vals_pick (r.append rz) perm
    · rw [if_neg c, if_neg c]
      exact .nil
def eCallK (i : Nat) (a k : SA) (perm : List Nat) : SE := fun F ρ μ => (a F ρ μ).bind fun vs μ1 => (k F ρ μ1).bind fun zs μ2 => F i ((perm.filterMap fun i => (vs ++ zs)[i]?).map EV.arg) μ2
theorem EvsR.app {K : PySem.W.Frag} {L : Addr → Prop} {ι : List Addr} {H0 H : Hp} : ∀ {es fs : List EV} {vs ws : List V}, EvsR K L ι H0 H es vs → EvsR K L ι H0 H fs ws → EvsR K L ι H0 H (es ++ fs) (vs ++ ws)
  | [], fs, vs, ws, h, g => by
    have h : vs = [] := h
    subst h; exact g
  | e :: es, fs, vs, ws, h, g => by
    obtain ⟨v, r, rfl, h1, h2⟩ := h
    exact ⟨v, r ++ ws, rfl, h1, EvsR.app h2 g⟩
theorem EvsR.len {K : PySem.W.Frag} {L : Addr → Prop} {ι : List Addr} {H0 H : Hp} : ∀ {es : List EV} {vs : List V}, EvsR K L ι H0 H es vs → vs.length = es.length
  | [], vs, h => by
    have h : vs = [] := h
    subst h; rfl
  | e :: es, vs, h => by
    obtain ⟨v, r, rfl, h1, h2⟩ := h
    rw [List.length_cons, List.length_cons, EvsR.len h2]
theorem EvsR.get {K : PySem.W.Frag} {L : Addr → Prop} {ι : List Addr} {H0 H : Hp} : ∀ {es : List EV} {vs : List V} {i : Nat} {e : EV}, EvsR K L ι H0 H es vs → es[i]? = some e → ∃ v, vs[i]? = some v ∧ EvR K L ι H0 H e v
  | [], vs, i, e, h, q => by simp at q
  | x :: es, vs, 0, e, h, q => by
    obtain ⟨v, r, rfl, h1, h2⟩ := h
    simp at q; subst q
    exact ⟨v, rfl, h1⟩
  | x :: es, vs, i + 1, e, h, q => by
    obtain ⟨v, r, rfl, h1, h2⟩ := h
    obtain ⟨w, q1, q2⟩ := EvsR.get (i := i) h2 (by simpa using q)
    exact ⟨w, by simpa using q1, q2⟩
theorem EvsR.pick {K : PySem.W.Frag} {L : Addr → Prop} {ι : List Addr} {H0 H : Hp} {es : List EV} {vs : List V} (h : EvsR K L ι H0 H es vs) : ∀ perm : List Nat, EvsR K L ι H0 H (perm.filterMap fun i => es[i]?) (perm.filterMap fun i => vs[i]?)
  | [] => rfl
  | i :: perm => by
    rw [List.filterMap_cons, List.filterMap_cons]
    cases e : es[i]? with
    | some v =>
      obtain ⟨u, hu, r⟩ := h.get e
      rw [hu]
      exact ⟨u, _, rfl, r, EvsR.pick h perm⟩
    | none =>
      have : vs[i]? = none := by
        rw [List.getElem?_eq_none_iff] at e ⊢
        rw [h.len]; exact e
      rw [this]
      exact EvsR.pick h perm
theorem callK_rd {K : PySem.W.Frag} {XC : Nat → Addr} {F : Fns} {i : Nat} {fa fk : SA} {σ : L2.St} {H : Hp} {Q : VK} {nu nk np : Nat} {perm : List Nat} (h : rdE K XC F W0 (eCallK i fa fk perm) σ H Q) (hl : ∀ ρ μ vs μ', fa F ρ μ = .ok vs μ' → vs.length = nu) (hk : ∀ ρ μ vs μ', fk F ρ μ = .ok vs μ' → vs.length = nk)
    (hp : perm.length = np) (hb : ∀ i ∈ perm, i < nu + nk) : tCallK (spF K XC F i np) (gP nu nk perm) E0 (rdA K XC F W0 fa) (rdA K XC F W0 fk) σ H Q := by
  obtain ⟨Acc, ι, ρ, μ, S, E, h⟩ := h
  refine rd.bind (Stp.refl S) E h fun vs μ1 xs H1 e1 t1 r1 h1 => ?_
  refine rd.bind t1 (E.mv t1 S) h1 fun zs μ2 ys H2 e2 t2 r2 h2 => ?_
  have t12 := t1.trans t2
  have r12 := (EvsR.mv t1 S t2 r1).app (EvsR.back t1 r2)
  have l1 : xs.length = nu := by rw [r1.len]; exact hl _ _ _ _ e1
  have l2 : ys.length = nk := by rw [r2.len]; exact hk _ _ _ _ e2
  have eg : gP nu nk perm xs ys = perm.filterMap fun i => (xs ++ ys)[i]? := if_pos ⟨l1, l2⟩
  rw [eg]
  have ra := args_ok (fun a h => S.trk h) (fun a h => (S.acc a h).2) (r12.pick perm)
  have len : ∀ perm : List Nat, (∀ i ∈ perm, i < nu + nk) → (perm.filterMap fun i => (xs ++ ys)[i]?).length = perm.length := by
    intro perm
    induction perm with
    | nil => intro _; rfl
    | cons j perm ih =>
      intro hb
      have hj := hb j List.mem_cons_self
      have : j < (xs ++ ys).length := by rw [List.length_append]; omega
      rw [List.filterMap_cons, List.getElem?_eq_getElem this, List.length_cons, List.length_cons, ih fun i hi => hb i (List.mem_cons_of_mem _ hi)]
  refine ⟨by rw [len perm hb, hp], Acc, ι, μ2, _, t2.sim, ra, ?_⟩
  replace h2 := wp.shift t12 h2
  cases hc : F i ((perm.filterMap fun i => (vs ++ zs)[i]?).map EV.arg) μ2 with
  | bad => rw [hc] at h2; exact h2
  | exc x μ' => rw [hc] at h2; exact h2
  | ok v μ' => rw [hc] at h2; exact h2
theorem PKimp {X : Cx} {k : List Keyword} {t t' : TA} (h : PK X k t) (i : ∀ σ H Q, t' σ H Q → t σ H Q) : PK X k t' := ⟨fun pos pins s σ H Q I q => h.run pos pins s σ H Q I (i σ H Q q)⟩
section
variable {X : Cx} {XC : Nat → Addr} {F : Fns} {W : WX} {n i : Nat} {x : Str} {ps ks : List Str} {st : Stmt} {p pos kpos : Pos} {e : Expr} {es : List Expr} {kws : List Keyword} {nm : Option Str} {fe : SE} {fs fk : List SE}
theorem ck_nil : PK X [] (rdA X.K XC F W (evs [])) := PKimp pk_nil fun σ H Q ⟨Acc, ι, ρ, μ, S, E, h⟩ => h [] H (.refl S) rfl
theorem ck_cons (ha : PE X e (rdE X.K XC F W fe)) (hr : PK X kws (rdA X.K XC F W (evs fs))) : PK X (⟨nm, e, kpos⟩ :: kws) (rdA X.K XC F W (evs (fe :: fs))) :=
  PKimp (pk_cons ha hr) fun σ H Q ⟨Acc, ι, ρ, μ, S, E, h⟩ => by
    refine rd.bind (.refl S) E h fun v μ1 x H1 _ t1 r1 h1 => ?_
    refine rd.bind t1 (E.mv t1 S) h1 fun vs μ2 xs H2 _ t2 r2 h2 => ?_
    exact h2 (x :: xs) H2 (t1.trans t2) ⟨x, xs, rfl, EvR.mv t1 S t2 r1.1 rfl, EvsR.back t1 r2⟩
theorem c_callK (G : FnR X.prog X.w X.K X.mg X.base XC F n i x ps st) (nu nk : Nat) (perm : List Nat) (hr : Room n X.A) (hG : X.A.guards = some []) (hg : Gl X x)
    (kb : ∀ (f : Addr) (fd : FuncData), Fun X.K x x st f fd → KBinds X.K fd ps ks (gP nu nk perm) (gP nu nk perm)) (ha : PA X (e :: es) (rdA X.K XC F W0 (evs fs))) (hkw : PK X kws (rdA X.K XC F W0 (evs fk)))
    (hl : fs.length = nu := by rfl) (hk : fk.length = nk := by rfl) (hp : perm.length = ps.length := by rfl) (hbd : ∀ i ∈ perm, i < nu + nk := by decide)
    (hall : (backToKw pos (keywordEach kws X.env)).all (·.1.isSome) = true := by rfl) (hks : (backToKw pos (keywordEach kws X.env)).filterMap (·.1) = ks := by rfl)
    (hdb : (x == ("__debug__" : Str)) = false := by decide) (he : starEach (e :: es) X.env = (false, eval e X.env) :: starEach es X.env := by rfl)
    (hpl : ((backTo pos (starEach (e :: es) X.env)).any (·.1) || (backToKw pos (keywordEach kws X.env)).any (·.1.isNone)) = false := by rfl) :
    PE X (.Call (.Name x p) (e :: es) kws pos) (rdE X.K XC F W0 (eCallK i (evs fs) (evs fk) perm)) := by
  obtain ⟨f, fd, FF, hm, hb, G⟩ := G.ex
  exact PEimp (pe_gK (E := E0) G hr hG hg hm FF.kp (kb f fd FF) pass0 ha hkw hall hks hdb he hpl) fun σ H Q h => callK_rd h (fun ρ μ vs μ' h => by rw [evs_len _ _ _ _ _ _ h, hl]) (fun ρ μ vs μ' h => by rw [evs_len _ _ _ _ _ _ h, hk]) hp hbd
theorem c_callKz (G : FnR X.prog X.w X.K X.mg X.base XC F n i x ps st) (nk : Nat) (perm : List Nat) (hr : Room n X.A) (hG : X.A.guards = some []) (hg : Gl X x)
    (kb : ∀ (f : Addr) (fd : FuncData), Fun X.K x x st f fd → KBinds X.K fd ps ks (gP 0 nk perm) (gP 0 nk perm)) (hkw : PK X kws (rdA X.K XC F W0 (evs fk)))
    (hk : fk.length = nk := by rfl) (hp : perm.length = ps.length := by rfl) (hbd : ∀ i ∈ perm, i < 0 + nk := by decide)
    (hall : (backToKw pos (keywordEach kws X.env)).all (·.1.isSome) = true := by rfl) (hks : (backToKw pos (keywordEach kws X.env)).filterMap (·.1) = ks := by rfl)
    (hdb : (x == ("__debug__" : Str)) = false := by decide) (hpl : ((backTo pos (starEach [] X.env)).any (·.1) || (backToKw pos (keywordEach kws X.env)).any (·.1.isNone)) = false := by rfl) :
    PE X (.Call (.Name x p) [] kws pos) (rdE X.K XC F W0 (eCallK i (evs []) (evs fk) perm)) := by
  obtain ⟨f, fd, FF, hm, hb, G⟩ := G.ex
  refine PEimp (pe_gKz (E := E0) G hr hG hg hm FF.kp (kb f fd FF) pass0 hkw hall hks hdb hpl) fun σ H Q h => ?_
  have z := callK_rd (nu := 0) h (fun ρ μ vs μ' h => by cases h; rfl) (fun ρ μ vs μ' h => by rw [evs_len _ _ _ _ _ _ h, hk]) hp hbd
  obtain ⟨Acc, ι, ρ, μ, S, E, hz⟩ := z
  exact hz [] H (.refl S) rfl
end
end VM
/-! enumerate over a tuple: the machine's side. -/
namespace PySem
open Sem (wp)
set_option maxHeartbeats 1000000 in
theorem vm_enumNew {v : Value} {o : Obj} {H : Heap → Prop} (B : Begins v o H) :
    Meets (Builtin.«enumerate.__new__» ⟨[.type "enumerate", v], []⟩) (fun _ R s => H s.heap ∧
      R (.ok (.ret (.ref (s.heap.push o).objs.size))) { s with heap := (s.heap.push o).push { cls := .type "enumerate", data := .fields #[.none, .bool false, .ref s.heap.objs.size, rawInt 0, .none, .none] } }) := by
  refine .of_wp fun prog w A R s h => ?_
  obtain ⟨hp, g, d, tk, os⟩ := s
  obtain ⟨h1, h⟩ := h
  have hsub := sub_enumerate
  have q1 : ∀ {A' : Around} {E : Value → Shared → Prop} {Q : Value → Shared → Prop}, Q (.ref hp.objs.size) ⟨hp.push o, g, d, tk, os⟩ → wpAny (model prog w) A' (pyIter v) Q E ⟨hp, g, d, tk, os⟩ := fun q => B.iter prog w _ _ ⟨hp, g, d, tk, os⟩ _ h1 q
  wp_walk using q1
  refine wpAny_stack_any fun st => wpAny_pure ?_
  split
  · rename_i c _ _ _ _ _
    cases (c == Value.type "enumerate")
    · wp_walk using q1
      exact ⟨_, rfl, h⟩
    · wp_walk using q1
      exact ⟨_, rfl, h⟩
  · wp_walk using q1
    exact ⟨_, rfl, h⟩
theorem vm_enumCall {prog : Program} {w : World} {A : Around} {E : Value → Shared → Prop} {s : Shared} {v : Value} {o : Obj} {H : Heap → Prop} {Q : Value → Shared → Prop} (B : Begins v o H) (h1 : H s.heap)
    (h : ∀ h', IsEnum h' (s.heap.objs.size + 1) s.heap.objs.size 0 .none → h'.get? s.heap.objs.size = some o → (∀ b o, s.heap.get? b = some o → h'.get? b = some o) → Q (.ref (s.heap.objs.size + 1)) { s with heap := h' }) :
    wpAny (model prog w) A (call (.type "enumerate") [v]) Q E s := by
  refine callType_new F.called_enumerate (by decide) (F.typeCall_enumerate_1 _) (F.newCall_enumerate_1 _) (fun obj => F.args_object_init_2 obj _) F.entry_enumerate_new (vm_enumNew B) ⟨h1, ?_⟩
  have hz : (s.heap.push o).objs.size = s.heap.objs.size + 1 := Heap.size_push ..
  show _ ∧ _
  rw [hz]
  have he : IsEnum ((s.heap.push o).push { cls := .type "enumerate", data := .fields #[.none, .bool false, .ref s.heap.objs.size, rawInt 0, .none, .none] }) (s.heap.objs.size + 1) s.heap.objs.size 0 .none := by
    have := Heap.get?_push_size (s.heap.push o) (o := { cls := .type "enumerate", data := .fields #[.none, .bool false, .ref s.heap.objs.size, rawInt 0, .none, .none] }) rfl
    rw [hz] at this
    exact this
  exact ⟨⟨_, he, rfl⟩, h _ he (Heap.get?_push_of_some _ (Heap.get?_push_size _ B.free)) fun b o x => Heap.get?_push_of_some _ (Heap.get?_push_of_some _ x)⟩
end PySem
namespace VM
open PySem L2 PyProof.Rows
/-- the tuple at a, each item in a new pair -/
def Itet (K : PySem.W.Frag) (a : Addr) : It :=
  ⟨fun i H => ∃ (xs : List V) (x : V), SqT K H a xs ∧ xs[i]? = some x, fun i H v H' => ∃ T x, v = .ref T ∧ H T = none ∧ H' = upd H T (.tup [.int (i : Nat), x]) ∧ ∀ xs, SqT K H a xs → xs[i]? = some x, fun i H => ∃ xs : List V, SqT K H a xs ∧ xs.length ≤ i⟩
theorem turn_enumT {P : Program} {w : World} {K : PySem.W.Frag} {elts : List Expr} {kk : Nat} {tpos : Pos} (a e it : Addr) :
    Turn P w K (.Tuple elts kk tpos) (Itet K a) [e, it] e (fun i h => (∃ old, IsEnum h e it ((i : Nat) : Int) old) ∧ h.IsTupleIter it a i ∧ e ≠ it) where
  mem := by simp
  obj := fun i h st b hb => by
    obtain ⟨⟨old, he⟩, ⟨o, ho, hc, hd⟩, _⟩ := st
    have e' : b = e ∨ b = it := by simpa using hb
    rcases e' with z | z
    · rw [z]; exact ⟨_, he, fun v q => nomatch q⟩
    · rw [z]; exact ⟨o, ho, fun v q => by rw [hd] at q; cases q⟩
  keep := fun i h h' st k => let ⟨⟨old, he⟩, hi, hne⟩ := st; ⟨⟨old, k e (by simp) _ he⟩, hi.at fun o q => k it (by simp) o q, hne⟩
  item := by
    intro X hP hw hK hc i pins s σ H E I hf st hg
    subst hP hw hK
    obtain ⟨⟨old, he⟩, hit, hne⟩ := st
    obtain ⟨xs, x, hq, hx⟩ := hg
    obtain ⟨its, rv, p, hz⟩ := I.tuple hq
    have p : s.heap.IsTuple a its.toArray := p
    obtain ⟨u, hu, ru⟩ := rv.get hx
    have hel : e < s.heap.objs.size := Heap.lt_size he
    have hil : it < s.heap.objs.size := by obtain ⟨_, q, _⟩ := hit; exact Heap.lt_size q
    have hai : a ≠ it := by
      rintro rfl
      obtain ⟨o1, q1, c1, _⟩ := hit
      obtain ⟨o2, q2, c2, _⟩ := p
      rw [q1] at q2; cases q2
      rw [c1] at c2; exact absurd (Value.type.inj c2) (by decide)
    have hea : e ∉ [it, a] := by
      intro z
      rcases List.mem_cons.mp z with z | z
      · exact hne z
      · have z : e = a := by simpa using z
        subst z
        obtain ⟨o2, q2, c2, _⟩ := p
        rw [he] at q2; cases q2
        exact absurd (Value.type.inj c2) (by decide)
    have hl := rv.length
    have hi : i < its.toArray.size := by
      have := (List.getElem?_eq_some_iff.mp hu).1
      simpa using this
    refine wpAny_pyNext_enum_itemD (Draws.tuple (A := X.A.in1) (I.ok.hd hc) it a hai its.toArray) he ⟨hit, p⟩ hi hne hea fun x' h' tk hP ho st' hT hsz hk => ?_
    have ex : x' = u := by
      have h1 : its.toArray[i]? = some u := by simpa using hu
      rw [h1] at hP
      exact (Option.some.inj hP).symm
    subst ex
    refine ⟨_, rfl, wpAny_letOwnedTupleGo_enum (s := { s with heap := h', toks := tk + 1 }) ho fun h'' he' sb => ?_⟩
    have hT2 : h''.get? s.heap.objs.size = some { cls := .type "tuple", data := .seq #[.int i tk, x'] } := (sb.2 _ (Nat.ne_of_gt hel)).trans hT
    have new : ObjOk X.prog X.w (upd H s.heap.objs.size (.tup [.int (i : Nat), x])) h'' s.heap.objs.size (.tup [.int (i : Nat), x]) :=
      ⟨by show 2 ≤ sizeLine; decide, [.int i tk, x'], .cons ⟨_, rfl⟩ (.cons ru .nil), ⟨_, hT2, rfl, _, rfl⟩⟩
    have I1 : Inv X pins σ (upd H s.heap.objs.size (.tup [.int (i : Nat), x])) { s with heap := h'', toks := tk + 1 } :=
      I.turnedNew (ch := [e, it]) (fun b ob hb q => (sb.2 b (fun z => hb (by simp [z]))).trans (hk b ob (fun z => hb (by simp [z])) (fun z => hb (by simp [z])) q)) hf (Nat.le_refl _) new
    refine ⟨.ref s.heap.objs.size, _, I1, rfl, ⟨_, x, rfl, I.hok.fresh (Nat.le_refl _), rfl, fun ys hy => by rw [I.tuple_inj hy hq]; exact hx⟩, ⟨⟨x', ?_⟩, st'.1.at fun o q => (sb.2 it (Ne.symm hne)).trans q, hne⟩, fun b hb => ?_⟩
    · have e1 : ((i + 1 : Nat) : Int) = (i : Int) + 1 := by omega
      rw [e1]; exact he'
    · have hb' : b < s.heap.objs.size := by
        have e' : b = e ∨ b = it := by simpa using hb
        rcases e' with z | z
        · rw [z]; exact hel
        · rw [z]; exact hil
      rw [upd_ne (Nat.ne_of_lt hb')]
      exact (hf b hb).1
  done := by
    intro X hP hw hK hc i pins s σ H E I hf st hg
    subst hP hw hK
    obtain ⟨⟨old, he⟩, hit, hne⟩ := st
    obtain ⟨xs, hq, hx⟩ := hg
    obtain ⟨its, rv, p, hz⟩ := I.tuple hq
    have p : s.heap.IsTuple a its.toArray := p
    obtain ⟨f0, f1, f2, f3, f4, f5⟩ := hf it (by simp)
    have hl := rv.length
    have hai : a ≠ it := by
      rintro rfl
      obtain ⟨o1, q1, c1, _⟩ := hit
      obtain ⟨o2, q2, c2, _⟩ := p
      rw [q1] at q2; cases q2
      rw [c1] at c2; exact absurd (Value.type.inj c2) (by decide)
    have D : Draws X.prog X.w X.A.in1 it [it, a] i (fun _ _ => True) (fun j h => j = i ∧ h.IsTupleIter it a i ∧ h.IsTuple a its.toArray) :=
      { live := fun _ _ st => let ⟨_, ⟨o, ho, _⟩, _⟩ := st; ⟨o, ho⟩
        frame := fun _ _ _ st hk => ⟨st.1, st.2.1.at fun o e => hk it (by simp) o e, st.2.2.at fun o e => hk a (by simp) o e⟩
        item := fun j s Q E hj st _ => absurd st.1 (Nat.ne_of_lt hj)
        done := fun s Q E st hE => wpAny_nextOf_tuple_end (A := X.A.in1) (I.ok.hd hc) st.2.1 st.2.2 (by simp; omega) hE }
    exact wpAny_pyNext_enum_endD D he ⟨rfl, hit, p⟩ fun h' eb => ⟨rfl, I.turned (t' := s.toks) (fun b o hb q => eb b o hb q) f0 f1 f3 f4 f5⟩
  self := fun A i s Q E st h => let ⟨⟨_, he⟩, _⟩ := st; wpAny_pyIter_enum he h

def iEnumT (K : PySem.W.Frag) (ta : TA) : TI := fun σ H R => ta σ H fun vs H1 => ∃ a xs, vs = [.ref a] ∧ SqT K H1 a xs ∧ R (Itet K a) H1
theorem pi_enumT {X : Cx} {e : Expr} {ta : TA} {p pos tpos : Pos} {elts : List Expr} {kk : Nat} (hg : Gl X "enumerate") (hm : X.mg "enumerate" = none) (ha : PA X [e] ta) (hs : starEach [e] X.env = [(false, eval e X.env)] := by rfl) :
    PI X (.Tuple elts kk tpos) (.Call (.Name "enumerate" p) [e] [] pos) (iEnumT X.K ta) := by
  refine ⟨fun pins s σ H R I h => ?_⟩
  refine Call_ (ld_blt I hg hm boot_enumerate (PyProof.Rows.callWith_type1 (thn (ha.run pos pins s σ H _ I h) fun us s1 ⟨vs, H1, I1, r1, q1⟩ => ?_) hs rfl))
  obtain ⟨a, xs, ex, hq, q⟩ := q1
  subst ex
  cases r1 with
  | cons r rr =>
    cases rr
    cases r
    obtain ⟨its, rv, p', hz⟩ := I1.tuple hq
    refine vm_enumCall (begins_tuple a its.toArray) p' fun h' he hit hk => wpAny_pyIter_enum he ?_
    have I2 : Inv X pins σ H1 { s1 with heap := h' } := I1.kept (t' := s1.toks) hk
    refine ⟨s1.heap.objs.size + 1, [s1.heap.objs.size + 1, s1.heap.objs.size], _, _, H1, rfl, I2, turn_enumT a (s1.heap.objs.size + 1) s1.heap.objs.size, ⟨⟨.none, he⟩, ⟨_, hit, rfl, rfl⟩, Nat.succ_ne_self _⟩, fun b hb => ?_, q⟩
    have e' : b = s1.heap.objs.size + 1 ∨ b = s1.heap.objs.size := by simpa using hb
    have hle : s1.heap.objs.size ≤ b := by
      rcases e' with z | z
      · rw [z]; exact Nat.le_add_right _ _
      · rw [z]; exact Nat.le_refl _
    exact I1.fpOk hle (I1.hok.fresh hle)
/-- either, by what it is -/
theorem pi_or {X : Cx} {tg e : Expr} {t t' : TI} (h : PI X tg e t) (h' : PI X tg e t') : PI X tg e (fun σ H R => t σ H R ∨ t' σ H R) := ⟨fun pins s σ H R I q => q.elim (fun q => h.run pins s σ H R I q) fun q => h'.run pins s σ H R I q⟩
end VM
/-! enumerate, dicts, comprehensions: the rules. -/
namespace VM
open PySem L2 PyProof.Rows
def Src.enum : Src → Src
  | .vals ds => .vals (enumD ds)
  | .cell k => .ecell k
  | .ecell k => .ecell k
def Src.plain : Src → Bool
  | .ecell _ => false
  | _ => true
theorem enumD_len {ds : List D} : (enumD ds).length = ds.length := by unfold enumD; simp
theorem enumD_get {ds : List D} {i : Nat} : (enumD ds)[i]? = (ds[i]?).map fun d => .tup [.int (i : Nat), d] := by
  unfold enumD
  rw [List.getElem?_map, List.getElem?_zipIdx]
  cases ds[i]? with
  | none => rfl
  | some d => simp
theorem enum_at {s : Src} {μ : Sto} (h : s.plain = true) : s.enum.at μ = (s.at μ).map enumD := by
  cases s with
  | vals ds => rfl
  | ecell k => cases h
  | cell k =>
    simp only [Src.enum, Src.at]
    cases μ[k]? with
    | none => rfl
    | some c =>
      cases hv : c.val <;> simp [hv]
section
variable {K : PySem.W.Frag} {Acc : Addr → Prop} {ι : List Addr} {μ : Sto} {H : Hp}
theorem jr_enumL {a : Addr} {s : Src} (hs : s.plain = true) (h : JR K (Itl K a) s Acc ι μ H) : JR K (Ite K a) s.enum Acc ι μ H := by
  intro Acc' ι' μ' H' S m pr es he i
  rw [enum_at hs] at he
  cases e0 : s.at μ' with
  | none => rw [e0] at he; cases he
  | some ds =>
    rw [e0] at he
    cases he
    have j := h Acc' ι' μ' H' S m pr ds e0 i
    rw [enumD_get, enumD_len]
    refine ⟨fun d hd => ?_, j.2⟩
    cases hd0 : ds[i]? with
    | none => rw [hd0] at hd; cases hd
    | some d0 =>
      rw [hd0] at hd
      cases hd
      obtain ⟨jg, jy⟩ := j.1 d0 hd0
      refine ⟨jg, fun v H'' y => ?_⟩
      obtain ⟨T, x, rfl, nT, rfl, hx⟩ := y
      obtain ⟨_, r⟩ := jy x H' ⟨rfl, hx⟩
      exact ⟨S.up nT _, S.newT nT (Reps.cons rep_int (Reps.cons r Reps.nil))⟩
theorem jr_enumT {a : Addr} {s : Src} (hs : s.plain = true) (h : JR K (Itt K a) s Acc ι μ H) : JR K (Itet K a) s.enum Acc ι μ H := by
  intro Acc' ι' μ' H' S m pr es he i
  rw [enum_at hs] at he
  cases e0 : s.at μ' with
  | none => rw [e0] at he; cases he
  | some ds =>
    rw [e0] at he
    cases he
    have j := h Acc' ι' μ' H' S m pr ds e0 i
    rw [enumD_get, enumD_len]
    refine ⟨fun d hd => ?_, j.2⟩
    cases hd0 : ds[i]? with
    | none => rw [hd0] at hd; cases hd
    | some d0 =>
      rw [hd0] at hd
      cases hd
      obtain ⟨jg, jy⟩ := j.1 d0 hd0
      refine ⟨jg, fun v H'' y => ?_⟩
      obtain ⟨T, x, rfl, nT, rfl, hx⟩ := y
      obtain ⟨_, r⟩ := jy x H' ⟨rfl, hx⟩
      exact ⟨S.up nT _, S.newT nT (Reps.cons rep_int (Reps.cons r Reps.nil))⟩
end
def isTx : EV → Bool
  | .dat (.str _) => true
  | _ => false
def iEnm (f : SE) : SI := fun F ρ μ => (f F ρ μ).bind fun v μ1 => match isTx v, srcOf v μ1 with
  | false, some s => .ok s.enum μ1
  | _, _ => .bad
section
variable {X : Cx} {XC : Nat → Addr} {F : Fns} {W : WX} {tg e a b c : Expr} {fe : SE} {fa : SA} {pos p tpos : Pos} {elts : List Expr} {kk : Nat}
theorem src_plain {v : EV} {μ : Sto} {s : Src} (h : srcOf v μ = some s) : s.plain = true := by
  unfold srcOf at h
  split at h <;> first | (cases h; rfl) | skip
  · split at h
    · split at h
      · cases h; rfl
      · cases h
    · cases h
  · cases h
theorem src_jr {K : PySem.W.Frag} {Acc : Addr → Prop} {ι : List Addr} {μ μ1 : Sto} {H H1 : Hp} {v : EV} {u : V} {s : Src} (S : Sim K Acc μ ι H) (t1 : Stp K Acc ι μ H ι μ1 H1) (r1 : EvR K (Liv Acc μ1 ι) ι H H1 v u) (es : srcOf v μ1 = some s) :
    (∃ a, u = .ref a ∧ (∃ xs, SqL K H1 a xs) ∧ JR K (Itl K a) s Acc ι μ1 H1) ∨ (∃ a, u = .ref a ∧ (∃ xs, SqT K H1 a xs) ∧ JR K (Itt K a) s Acc ι μ1 H1) ∨ isTx v = true := by
  unfold srcOf at es
  split at es
  · cases es
    rename_i ds
    obtain ⟨a, vs, rfl, tp, rp⟩ := (by simpa only [EvR, Rep] using r1 : ∃ a vs, u = .ref a ∧ TupN K _ H1 a vs ∧ Reps K _ H1 ds vs)
    exact .inr (.inl ⟨a, rfl, ⟨vs, tp.sq⟩, jr_tup tp rp⟩)
  · cases es
    rename_i ds
    obtain ⟨a, vs, rfl, tp, n, rp⟩ := (by simpa only [EvR, Rep] using r1 : ∃ a vs, u = .ref a ∧ H1 a = some (.lst vs) ∧ ¬ Liv Acc μ1 ι a ∧ Reps K _ H1 ds vs)
    exact .inl ⟨a, rfl, ⟨vs, SqL.of tp⟩, jr_still (.inl ⟨.inl tp, n⟩) rp⟩
  · cases es
    rename_i ns
    obtain ⟨a, rfl, tp⟩ := (by simpa only [EvR, Rep] using r1 : ∃ a, u = .ref a ∧ LstN K _ H1 a (ns.map V.int))
    exact .inl ⟨a, rfl, ⟨_, tp.sq⟩, jr_still tp (Reps.ints ns)⟩
  · exact .inr (.inr rfl)
  · cases es
    rename_i ds
    obtain ⟨p, rfl, n, vs, hv, rp⟩ := r1
    have nl : ¬ Liv Acc μ1 ι p := fun z => by
      rcases z with z | z
      · exact S.trk z.mem n
      · exact (S.acc p z).2 n
    exact .inl ⟨p, rfl, ⟨vs, SqL.of hv⟩, jr_still (.inl ⟨.inl hv, nl⟩) rp⟩
  · rename_i k
    obtain ⟨a, ea, rfl⟩ := r1
    cases hc : μ1[k]? with
    | none => rw [hc] at es; cases es
    | some c =>
      rw [hc] at es
      simp only at es
      cases hv : c.val with
      | dic ks ds => rw [hv] at es; cases es
      | lst ds =>
        rw [hv] at es
        cases es
        obtain ⟨b, e1, r⟩ := t1.sim.cell k c hc
        rw [ea] at e1; cases e1
        rw [hv] at r
        obtain ⟨vs, hl, rp⟩ := r
        exact .inl ⟨a, rfl, ⟨vs, SqL.of hl⟩, jr_cell ea⟩
  · cases es
/-- whatever a thing holds, its enumerated walk -/
theorem rdI_enm {K : PySem.W.Frag} {σ : L2.St} {H : Hp} {R : It → Hp → Prop} (h : rdI K XC F W (iEnm fe) σ H R) :
    rdE K XC F W fe σ H fun v H1 => (∃ a xs, v = .ref a ∧ SqL K H1 a xs ∧ R (Ite K a) H1) ∨ (∃ a xs, v = .ref a ∧ SqT K H1 a xs ∧ R (Itet K a) H1) := by
  obtain ⟨Acc, ι, ρ, μ, S, E, h⟩ := h
  refine ⟨Acc, ι, ρ, μ, S, E, ?_⟩
  unfold iEnm at h
  cases er : fe F ρ μ with
  | bad => rw [er] at h; exact h
  | exc x μ1 => rw [er] at h; exact h
  | ok v μ1 =>
    rw [er] at h
    simp only [Res.bind] at h
    intro u H1 t1 r1
    cases es : srcOf v μ1 with
    | none => rw [es] at h; cases hx : isTx v <;> (rw [hx] at h; exact h.elim)
    | some s =>
      have jr := src_jr S t1 r1.1 es
      have hp := src_plain es
      cases hx : isTx v with
      | true => rw [hx] at h; exact h.elim
      | false =>
        rw [hx, es] at h
        rw [hx] at jr
        rcases jr with ⟨a, rfl, ⟨xs, hq⟩, jr⟩ | ⟨a, rfl, ⟨xs, hq⟩, jr⟩ | jr
        · exact .inl ⟨a, xs, rfl, hq, h _ H1 t1 (jr_enumL hp jr)⟩
        · exact .inr ⟨a, xs, rfl, hq, h _ H1 t1 (jr_enumT hp jr)⟩
        · cases jr
theorem ci_enum (hg : Gl X "enumerate") (hm : X.mg "enumerate" = none) (he : PE X e (rdE X.K XC F W fe)) (hs : starEach [e] X.env = [(false, eval e X.env)] := by rfl) :
    PI X (.Tuple elts kk tpos) (.Call (.Name "enumerate" p) [e] [] pos) (rdI X.K XC F W (iEnm fe)) := by
  refine ⟨fun pins s σ H R I h => ?_⟩
  have h' := rdI_enm h
  have ha := pa_cons he pa_nil (show starEach [e] X.env = (false, eval e X.env) :: starEach [] X.env from hs)
  refine Call_ (ld_blt I hg hm boot_enumerate (PyProof.Rows.callWith_type1 (thn (ha.run pos pins s σ H (fun vs H1 => ∃ x, vs = [x] ∧ ((∃ a xs, x = .ref a ∧ SqL X.K H1 a xs ∧ R (Ite X.K a) H1) ∨ (∃ a xs, x = .ref a ∧ SqT X.K H1 a xs ∧ R (Itet X.K a) H1))) I ?_) fun us s1 ⟨vs, H1, I1, r1, q1⟩ => ?_) hs rfl))
  · obtain ⟨Acc, ι, ρ, μ, S, E, h2⟩ := h'
    exact ⟨Acc, ι, ρ, μ, S, E, wp.imp h2 fun b H' q => ⟨b, rfl, q⟩⟩
  obtain ⟨x, ex, q1⟩ := q1
  subst ex
  obtain ⟨u, rfl, ru⟩ := Vals.one r1
  have fp : ∀ b ∈ [s1.heap.objs.size + 1, s1.heap.objs.size], FpOk X pins H1 b := fun b hb => by
    have e' : b = s1.heap.objs.size + 1 ∨ b = s1.heap.objs.size := by simpa using hb
    have hle : s1.heap.objs.size ≤ b := by
      rcases e' with z | z
      · rw [z]; exact Nat.le_add_right _ _
      · rw [z]; exact Nat.le_refl _
    exact I1.fpOk hle (I1.hok.fresh hle)
  rcases q1 with ⟨a, xs, rfl, hq, q⟩ | ⟨a, xs, rfl, hq, q⟩
  · cases ru
    obtain ⟨its, rv, p', hz⟩ := I1.list hq
    refine call_enumerate_list p'.isList fun h' he hit hsz hk => wpAny_pyIter_enum he ?_
    exact ⟨s1.heap.objs.size + 1, [s1.heap.objs.size + 1, s1.heap.objs.size], _, _, H1, rfl, I1.kept (t' := s1.toks) hk, turn_enum a (s1.heap.objs.size + 1) s1.heap.objs.size, ⟨⟨.none, he⟩, hit, Nat.succ_ne_self _⟩, fp, q⟩
  · cases ru
    obtain ⟨its, rv, p', hz⟩ := I1.tuple hq
    refine vm_enumCall (begins_tuple a its.toArray) p' fun h' he hit hk => wpAny_pyIter_enum he ?_
    exact ⟨s1.heap.objs.size + 1, [s1.heap.objs.size + 1, s1.heap.objs.size], _, _, H1, rfl, I1.kept (t' := s1.toks) hk, turn_enumT a (s1.heap.objs.size + 1) s1.heap.objs.size, ⟨⟨.none, he⟩, ⟨_, hit, rfl, rfl⟩, Nat.succ_ne_self _⟩, fp, q⟩
end

/-! ### dicts -/
def eDict0 : SE := fun _ _ μ => .ok (.new (.dic [] [])) μ
/-- d.get(k, x) -/
def eGet2 (o k x : SE) : SE := fun F ρ μ => (o F ρ μ).bind fun v μ1 => match v.see μ1 with
  | some (.dic _ _) => (k F ρ μ1).bind fun w μ2 => (x F ρ μ2).bind fun u μ3 => match v.see μ3, w.see μ3 with
    | some (.dic ks ds), some kd => match kd.key with
      | some j => match dget ks ds j with
        | some d => .ok (.dat d) μ3
        | none => .ok u μ3
      | none => .bad
    | _, _ => .bad
  | _ => .bad
def eGet1 (o k : SE) : SE := eGet2 o k (eC .non)
/-- d.setdefault(k, x) -/
def eSetd (o k x : SE) : SE := fun F ρ μ => (o F ρ μ).bind fun v μ1 => match v, v.see μ1 with
  | .cel c, some (.dic _ _) => (k F ρ μ1).bind fun w μ2 => (x F ρ μ2).bind fun u μ3 => match u.frz μ3, w.see μ3 with
    | some (d, μ4), some kd => match μ4[c]?, kd.key with
      | some cc, some j => match cc.live, cc.val with
        | true, .dic ks ds => if ndK ks && decide (ks.length < LIM) then match dget ks ds j with
          | some d' => .ok (.dat d') μ4
          | none => .ok (.dat d) (μ4.set c ⟨true, .dic (dput ks ds j d).1 (dput ks ds j d).2⟩) else .bad
        | _, _ => .bad
      | _, _ => .bad
    | _, _ => .bad
  | _, _ => .bad
section
variable {X : Cx} {XC : Nat → Addr} {F : Fns} {W : WX} {o e f : Expr} {fo fe ff : SE} {apos cpos pos : Pos}
theorem c_dict0 : PE X (.Dict [] [] pos) (rdE X.K XC F W eDict0) := PEimp pe_dnewK fun σ H Q ⟨Acc, ι, ρ, μ, S, E, h⟩ p hp =>
  h (.ref p) _ (S.up hp _) ⟨⟨p, rfl, hp, [], upd_same, rfl, Reps.nil⟩, S.ownD (ks := []) (ds := []) (vs := []) hp rfl Reps.nil⟩
theorem EvR.move {K : PySem.W.Frag} {Acc : Addr → Prop} {ι : List Addr} {μ μ1 μ2 : Sto} {H H1 H2 : Hp} {v : EV} {x : V} (t1 : Stp K Acc ι μ H ι μ1 H1) (S : Sim K Acc μ ι H) (t2 : Stp K Acc ι μ1 H1 ι μ2 H2) (h : EvR K (Liv Acc μ1 ι) ι H H1 v x) : EvR K (Liv Acc μ2 ι) ι H H2 v x := EvR.mv t1 S t2 h rfl
theorem c_get2 (hu : X.A.units + 1 < cLine) (ho : PE X o (rdE X.K XC F W fo)) (he : PE X e (rdE X.K XC F W fe)) (hf : PE X f (rdE X.K XC F W ff)) (m : M2 X o "get" apos e f cpos) : PE X (.Call (.Attribute o "get" apos) [e, f] [] cpos) (rdE X.K XC F W (eGet2 fo fe ff)) :=
  PEimp (pe_dget2 hu ho he hf m) fun σ H Q ⟨Acc, ι, ρ, μ, S, E, h⟩ => by
    refine rd.bind (Stp.refl S) E h fun v μ1 x H1 _ t1 r1 h1 => ?_
    cases hs1 : v.see μ1 with
    | none => rw [hs1] at h1; exact h1.elim
    | some d1 =>
      rw [hs1] at h1
      cases d1 <;> try exact h1.elim
      simp only at h1
      obtain ⟨a, vs1, rfl, ha1, _, _⟩ := see_ok t1.sim r1.1 hs1
      refine ⟨a, rfl, .inl ⟨_, .inl ha1⟩, ?_⟩
      refine rd.bind t1 (E.mv t1 S) h1 fun w μ2 y H2 _ t2 r2 h2 => ?_
      have t12 := t1.trans t2
      refine rd.bind t12 (E.mv t12 S) h2 fun u μ3 z H3 _ t3 r3 h3 => ?_
      have t23 := t2.trans t3
      have r1' := EvR.move t1 S t23 r1.1
      have r2' := EvR.move t2 t1.sim t3 r2.1
      cases hs3 : v.see μ3 with
      | none => rw [hs3] at h3; exact h3.elim
      | some d3 =>
        rw [hs3] at h3
        cases d3 <;> try exact h3.elim
        rename_i ks ds
        cases hw : w.see μ3 with
        | none => rw [hw] at h3; exact h3.elim
        | some kd =>
          rw [hw] at h3
          simp only at h3
          cases hk : kd.key with
          | none => rw [hk] at h3; exact h3.elim
          | some j =>
            rw [hk] at h3
            simp only at h3
            obtain ⟨a3, vs, e3, ha, hl, rp⟩ := see_ok t3.sim r1' hs3
            cases e3
            have ey := key_rep hk (see_ok t3.sim r2' hw)
            subst ey
            refine ⟨_, DGet.k ha, ?_⟩
            have hg := val_get (k := j) hl rp
            cases hd : dget ks ds j with
            | some d =>
              rw [hd] at h3 hg
              obtain ⟨vv, e1, rv⟩ := hg
              rw [e1]
              exact h3 vv H3 (t12.trans t3) ⟨rv, trivial⟩
            | none =>
              rw [hd] at h3 hg
              have hg : valV (ks.zip vs) j = none := hg
              rw [hg]
              exact h3 z H3 (t12.trans t3) ⟨EvR.back t12 r3.1, r3.2⟩
theorem c_get1 (hu : X.A.units + 1 < cLine) (ho : PE X o (rdE X.K XC F W fo)) (he : PE X e (rdE X.K XC F W fe)) (m : M1 X o "get" apos e cpos) : PE X (.Call (.Attribute o "get" apos) [e] [] cpos) (rdE X.K XC F W (eGet1 fo fe)) :=
  PEimp (pe_dget1 hu ho he m) fun σ H Q ⟨Acc, ι, ρ, μ, S, E, h⟩ => by
    unfold eGet1 eGet2 at h
    refine rd.bind (Stp.refl S) E h fun v μ1 x H1 _ t1 r1 h1 => ?_
    cases hs1 : v.see μ1 with
    | none => rw [hs1] at h1; exact h1.elim
    | some d1 =>
      rw [hs1] at h1
      cases d1 <;> try exact h1.elim
      simp only at h1
      obtain ⟨a, vs1, rfl, ha1, _, _⟩ := see_ok t1.sim r1.1 hs1
      refine ⟨a, rfl, .inl ⟨_, .inl ha1⟩, ?_⟩
      refine rd.bind t1 (E.mv t1 S) h1 fun w μ2 y H2 _ t2 r2 h2 => ?_
      simp only [eC, Res.bind] at h2
      have t12 := t1.trans t2
      have r1' := EvR.move t1 S t2 r1.1
      cases hs3 : v.see μ2 with
      | none => rw [hs3] at h2; exact h2.elim
      | some d3 =>
        rw [hs3] at h2
        cases d3 <;> try exact h2.elim
        rename_i ks ds
        cases hw : w.see μ2 with
        | none => rw [hw] at h2; exact h2.elim
        | some kd =>
          rw [hw] at h2
          simp only at h2
          cases hk : kd.key with
          | none => rw [hk] at h2; exact h2.elim
          | some j =>
            rw [hk] at h2
            simp only at h2
            obtain ⟨a3, vs, e3, ha, hl, rp⟩ := see_ok t2.sim r1' hs3
            cases e3
            have ey := key_rep hk (see_ok t2.sim r2.1 hw)
            subst ey
            refine ⟨_, DGet.k ha, ?_⟩
            have hg := val_get (k := j) hl rp
            cases hd : dget ks ds j with
            | some d =>
              rw [hd] at h2 hg
              obtain ⟨vv, e1, rv⟩ := hg
              rw [e1]
              exact h2 vv H2 t12 ⟨rv, trivial⟩
            | none =>
              rw [hd] at h2 hg
              have hg : valV (ks.zip vs) j = none := hg
              rw [hg]
              exact h2 V.non H2 t12 ⟨rfl, trivial⟩
theorem c_setd (ho : PE X o (rdE X.K XC F W fo)) (he : PE X e (rdE X.K XC F W fe)) (hf : PE X f (rdE X.K XC F W ff)) (m : M2 X o "setdefault" apos e f cpos) : PE X (.Call (.Attribute o "setdefault" apos) [e, f] [] cpos) (rdE X.K XC F W (eSetd fo fe ff)) :=
  PEimp (pe_dsetd ho he hf m) fun σ H Q ⟨Acc, ι, ρ, μ, S, E, h⟩ => by
    refine rd.bind (Stp.refl S) E h fun v μ1 x H1 _ t1 r1 h1 => ?_
    cases v with
    | dat _ => exact h1.elim
    | new _ => exact h1.elim
    | cel c =>
      cases hs1 : (EV.cel c).see μ1 with
      | none => rw [hs1] at h1; exact h1.elim
      | some d1 =>
        rw [hs1] at h1
        cases d1 <;> try exact h1.elim
        simp only at h1
        obtain ⟨a, vs1, ea, ha1, _, _⟩ := see_ok t1.sim r1.1 hs1
        subst ea
        refine ⟨a, rfl, .inl ⟨_, .inl ha1⟩, ?_⟩
        obtain ⟨a', ek, e'⟩ := r1.1
        cases e'
        refine rd.bind t1 (E.mv t1 S) h1 fun w μ2 y H2 _ t2 r2 h2 => ?_
        have t12 := t1.trans t2
        refine rd.bind t12 (E.mv t12 S) h2 fun u μ3 z H3 _ t3 r3 h3 => ?_
        have r2' := EvR.move t2 t1.sim t3 r2.1
        cases hf : u.frz μ3 with
        | none => rw [hf] at h3; exact h3.elim
        | some p =>
          obtain ⟨d, μ4⟩ := p
          rw [hf] at h3
          cases hw : w.see μ3 with
          | none => rw [hw] at h3; exact h3.elim
          | some kd =>
            rw [hw] at h3
            simp only at h3
            obtain ⟨t4, rd⟩ := frz_ok t3.sim (fun a h => t2.sim.trk h) (fun a h => (t2.sim.acc a h).2) r3.1 hf
            have t14 := (t12.trans t3).trans t4
            cases hc : μ4[c]? with
            | none => rw [hc] at h3; exact h3.elim
            | some cc =>
              rw [hc] at h3
              cases hk : kd.key with
              | none => rw [hk] at h3; exact h3.elim
              | some j =>
                rw [hk] at h3
                simp only at h3
                have ey := key_rep hk (see_ok t3.sim r2' hw)
                subst ey
                cases hl : cc.live with
                | false => rw [hl] at h3; exact h3.elim
                | true =>
                  cases hv : cc.val with
                  | lst _ => rw [hl, hv] at h3; exact h3.elim
                  | dic ks ds =>
                    rw [hl, hv] at h3
                    simp only at h3
                    obtain ⟨b, eb, rc⟩ := t4.sim.cell c cc hc
                    rw [ek] at eb; cases eb
                    rw [hv] at rc
                    obtain ⟨vs, ha, ll, rp⟩ := rc
                    split at h3
                    case isFalse => exact h3.elim
                    case isTrue hz =>
                      rw [Bool.and_eq_true, decide_eq_true_eq] at hz
                      have hzl : (ks.zip vs).length < sizeLine := by
                        rw [List.length_zip]
                        have h2 : LIM < sizeLine := by decide
                        have := hz.2
                        omega
                      have hg := val_get (k := j) ll rp
                      cases hd : dget ks ds j with
                      | some d' =>
                        rw [hd] at h3 hg
                        obtain ⟨vv, e1, rv⟩ := hg
                        refine ⟨_, j, ha, rfl, hzl, fun v hv => ?_, fun hn => ?_⟩
                        · rw [e1] at hv
                          cases hv
                          exact h3 vv H3 t14 ⟨rv, trivial⟩
                        · rw [e1] at hn; cases hn
                      | none =>
                        rw [hd] at h3 hg
                        simp only at h3
                        have hg : valV (ks.zip vs) j = none := hg
                        obtain ⟨ws, e1, r1⟩ := val_put (ndK_ok hz.1) ll rp rd
                        refine ⟨_, j, ha, rfl, hzl, fun v hv => ?_, fun _ => ?_⟩
                        · rw [hg] at hv; cases hv
                        · have tp := t4.sim.put (c' := .dic (dput ks ds j d).1 (dput ks ds j d).2) hc hl ek (o := .dK (putK (ks.zip vs) j z)) fun H' m e => ⟨ws, by rw [e, e1], dput_len ll, Reps.mv m _ _ r1⟩
                          exact h3 z _ (t14.trans tp) ⟨Rep.mv (tp.mv t4.sim) _ _ rd, trivial⟩
end
end VM
/-! Comprehensions: the rules. -/
namespace VM
open PySem L2 PyProof.Rows
example : asg (.tup [.nm 0, .tup [.nm 1]]) (.tup [.int 1, .tup [.non]]) [none, none] = some [some (.dat (.int 1)), some (.dat .non)] := rfl
section
variable {X : Cx} {XC : Nat → Addr} {F : Fns} {W : WX} {pos spos : Pos} {tg iter elt e : Expr} {ifs : List Expr} {es : List Expr} {x : Str}
theorem t_nm {i : Nat} (hN : X.N.Nodup) (hi : X.N[i]? = some x) (hx : Loc X.env.scope x) (hf : X.fn x = true ∨ X.env.scope.names.lookup x = some .local := by first | exact .inl rfl | exact .inr rfl | assumption) : PG X (.Name x pos) (gT X.K (.nm i)) := by
  simp only [gT]
  exact pg_name hN hi hx hf
theorem t_nil : PGs X [] (gTs X.K []) := by
  simp only [gTs]
  exact pgs_nil
theorem t_cons {t : Tgt} {ts : List Tgt} (h1 : PG X e (gT X.K t)) (h2 : PGs X es (gTs X.K ts)) (hs : (assignEach (e :: es) X.env).map (·.2) = assign e X.env :: (assignEach es X.env).map (·.2) := by rfl) : PGs X (e :: es) (gTs X.K (t :: ts)) := by
  simp only [gTs]
  exact pgs_cons h1 h2 hs
theorem t_tp {k : Nat} {ts : List Tgt} {n : Nat} (hc : X.calm = true) (h : PGs X es (gTs X.K ts)) (hl : ts.length = n := by rfl) (hn : (assignEach es X.env).length = n := by rfl) (hst : (assignEach es X.env).findIdx? (·.1) = none := by rfl) : PG X (.Tuple es k pos) (gT X.K (.tup ts)) := by
  simp only [gT]
  subst hl
  exact pg_tup hc h hn hst
theorem PTsimp {ifs : List Expr} {t t' : TT} (h : PTs X ifs t) (i : ∀ σ H Q, t' σ H Q → t σ H Q) : PTs X ifs t' := ⟨fun pins s σ H Q I q => h.run pins s σ H Q I (i σ H Q q)⟩
theorem q_yes : PTs X [] (rdB X.K XC F W bYes) := PTsimp pts_nil fun σ H Q ⟨Acc, ι, ρ, μ, S, E, h⟩ => h true H (.refl S) rfl
theorem q_one {c : Expr} {fc : SB} (h : PT X c (rdB X.K XC F W fc)) : PTs X [c] (rdB X.K XC F W fc) := pts_one h
theorem c_lc {scope : Scope} {own : List (Str × Nat)} {fi : SI} {t : Tgt} {fc : SB} {fe : SE} {vs : List Nat} (hc : X.calm = true) (hN : X.N.Nodup) (hi : PI X tg iter (rdI X.K XC F W fi)) (ok : BlkOk X.N X.env.scope scope own) (hsl : ∀ i ∈ t.slots, i ∈ vs) (hv : own.map (·.2) = vs)
    (hg : ∀ (s : Shared) (H : Hp) (C : Addr) (cl : List (Str × Addr)) (fp : List Addr), PG (X.blk s H scope (compEnvC scope cl C X.env) fp) tg (gT X.K t))
    (ht : ∀ (s : Shared) (H : Hp) (C : Addr) (cl : List (Str × Addr)) (fp : List Addr), PTs (X.blk s H scope (compEnvC scope cl C X.env) fp) ifs (rdB X.K XC F W0 fc))
    (he : ∀ (s : Shared) (H : Hp) (C : Addr) (cl : List (Str × Addr)) (fp : List Addr), PE (X.blk s H scope (compEnvC scope cl C X.env) fp) elt (rdE X.K XC F W0 fe)) (hs : ∀ x, foldedSetIterable iter X.env x = pure x := by intro _; rfl) :
    PE X (.ListComp elt [⟨tg, iter, ifs, 0⟩] scope pos) (rdE X.K XC F W (eLc fi t fc fe vs)) := by
  subst hv
  exact PEimp (pe_lc hc hN hi ok hg ht he hs) fun σ H Q h => lc_read hsl h
theorem s_lc {i : Nat} {y : Str} {py : Pos} {scope : Scope} {own : List (Str × Nat)} {fi : SI} {t : Tgt} {fc : SB} {fe : SE} {vs : List Nat} (hc : X.calm = true) (hN : X.N.Nodup) (hy : X.N[i]? = some y) (hyl : X.env.scope.names.lookup y = some .local)
    (hsw : swapsWith (.ListComp elt [⟨tg, iter, ifs, 0⟩] scope pos) (some (.Name y py)) spos.line X.env = pure true)
    (hi : PI X tg iter (rdI X.K XC F W fi)) (ok : BlkOk X.N X.env.scope scope own) (hsl : ∀ i ∈ t.slots, i ∈ vs) (hv : own.map (·.2) = vs)
    (hg : ∀ (s : Shared) (H : Hp) (C : Addr) (cl : List (Str × Addr)) (fp : List Addr), PG (X.blk s H scope (compEnvC scope cl C X.env) fp) tg (gT X.K t))
    (ht : ∀ (s : Shared) (H : Hp) (C : Addr) (cl : List (Str × Addr)) (fp : List Addr), PTs (X.blk s H scope (compEnvC scope cl C X.env) fp) ifs (rdB X.K XC F W0 fc))
    (he : ∀ (s : Shared) (H : Hp) (C : Addr) (cl : List (Str × Addr)) (fp : List Addr), PE (X.blk s H scope (compEnvC scope cl C X.env) fp) elt (rdE X.K XC F W0 fe)) (hs : ∀ x, foldedSetIterable iter X.env x = pure x := by intro _; rfl) :
    PS X (.Assign [.Name y py] (.ListComp elt [⟨tg, iter, ifs, 0⟩] scope pos) spos) (rdS X.K XC F W (sSet i (eLc fi t fc fe vs))) := by
  subst hv
  refine PSimp (ps_setLc hc hN hy hyl hsw hi ok hg ht he hs) fun D σ H ⟨Acc, ι, ρ, μ, S, E, h⟩ => ?_
  refine lc_read hsl (rd.stm (Stp.refl S) E h fun v μ1 b H1 t1 r1 h1 => ?_)
  obtain ⟨ι', t', r'⟩ := bnd_ok S t1 r1.1 r1.2
  exact h1 ι' H1 _ t' ((E.mv t' S).set r')
end
end VM
/-! t[::-1] of a tuple. -/
namespace HT
open PySem PySem.Spec PyProof.Rows
section
variable {prog : Program} {w : World} {A : Around} {E : Value → Shared → Prop} {s : Shared}
theorem adjust_rev (n : Nat) : Builtin.Slice.sliceAdjust none none (-1) (n : Int) = ((n : Int) - 1, -1) := by
  have h1 : (-1 : Int) < 0 := by omega
  unfold Builtin.Slice.sliceAdjust
  simp only [h1, if_true]
theorem places_rev (n : Nat) : Builtin.Slice.slicePlaces ((n : Int) - 1) (-1) (-1) = n := by
  unfold Builtin.Slice.slicePlaces
  have h1 : ¬ (-1 : Int) > 0 := by omega
  have e : - (-1 : Int) = 1 := by decide
  simp only [h1, if_false, e, Int.ediv_one]
  split <;> omega
theorem sliceApplied_rev {sl : Addr} {t : Tok} {n : Nat} {Q : Int × Int × Nat → Shared → Prop} (hs : s.heap.IsSliceOf sl .none .none (.int (-1) t))
    (h : Q ((n : Int) - 1, -1, n) s) : wpAny (model prog w) A (Builtin.Slice.sliceApplied (.ref sl) (pure (n : Int))) Q E s := by
  obtain ⟨os, hos, hcs, hds⟩ := id hs
  unfold Builtin.Slice.sliceApplied Builtin.Slice.sliceFields
  refine wpAny_bind (wpAny_bind (wpAny_field hos hds (x := .none) rfl (wpAny_bind (wpAny_field hos hds (x := .none) rfl (wpAny_bind (wpAny_field hos hds (x := .int (-1) t) rfl (wpAny_pure ?_)))))))
  refine wpAny_bind (slicePart_int ?_)
  show wpAny _ _ (if ((-1 : Int) == 0) = true then _ else _) _ _ s
  rw [if_neg (by decide)]
  refine wpAny_bind (slicePart_none (wpAny_bind (slicePart_none (wpAny_bind (wpAny_pure ?_)))))
  show wpAny _ _ (match Builtin.Slice.sliceAdjust none none (-1) (n : Int) with | (lo, hi) => pure (lo, (-1 : Int), Builtin.Slice.slicePlaces lo hi (-1))) _ _ s
  rw [adjust_rev n]
  show wpAny _ _ (pure ((n : Int) - 1, (-1 : Int), Builtin.Slice.slicePlaces ((n : Int) - 1) (-1) (-1))) _ _ s
  rw [places_rev]
  exact wpAny_pure h
theorem fm_map {α β : Type} {f : α → Option β} {g : α → β} : ∀ {l : List α}, (∀ x ∈ l, f x = some (g x)) → l.filterMap f = l.map g
  | [], _ => rfl
  | x :: l, h => by
    rw [List.filterMap_cons, h x List.mem_cons_self, List.map_cons, fm_map fun y hy => h y (List.mem_cons_of_mem _ hy)]
theorem pick_rev (xs : List Value) : ((List.range xs.length).filterMap fun (m : Nat) => xs.toArray[((xs.length : Int) - 1 + (m : Int) * (-1)).toNat]?) = xs.reverse := by
  have key : ∀ m ∈ List.range xs.length, xs.toArray[((xs.length : Int) - 1 + (m : Int) * (-1)).toNat]? = some (xs.reverse[m]?.getD .none) := fun m hm => by
    have hm : m < xs.length := by simpa using hm
    have e : ((xs.length : Int) - 1 + (m : Int) * (-1)).toNat = xs.length - 1 - m := by omega
    have hl : xs.length - 1 - m < xs.length := by omega
    rw [e, List.getElem?_reverse hm, List.getElem?_toArray, List.getElem?_eq_getElem hl]
    rfl
  rw [fm_map key]
  apply List.ext_getElem
  · simp
  · intro i h1 h2
    have hi : i < xs.reverse.length := h2
    rw [List.getElem_map, List.getElem_range, List.getElem?_eq_getElem hi]
    rfl
theorem getItem_tuple_rev {t sl : Addr} {its : List Value} {tk : Tok} {Q : Value → Shared → Prop} (ht : IsTup s.heap t its.toArray) (hs : s.heap.IsSliceOf sl .none .none (.int (-1) tk))
    (h : Q (.ref s.heap.objs.size) { s with heap := s.heap.push { cls := .type "tuple", data := .seq its.reverse.toArray } })
    (hsz : its.length ≤ sizeLine) : wpAny (model prog w) A (getItem (.ref t) (.ref sl)) Q E s := by
  have htake : sizeOk (.seq its.reverse.toArray) := by
    show its.reverse.toArray.size ≤ sizeLine
    rw [List.size_toArray, List.length_reverse]
    exact hsz
  obtain ⟨os, hos, hcs, hds⟩ := id hs
  have hTs : s.TypeIs (.ref sl) "slice" := ⟨os, hos, hcs⟩
  unfold getItem
  try with_reducible refine wpAny_holding ?_
  first | refine wpAny_bind (wpAny_pure ?_) | skip
  refine wpAny_bind (wpAny_sequenceKey ht.typeIs (by decide) ?_)
  refine wpAny_bind (wpAny_callSpecial?_slot (name := Str.ofString "__getitem__") ht.typeIs PyProof.Rows.slot_tuple_getitem
    (wpAny_call_entry PyProof.Rows.slot_tuple_getitem ht.typeIs entry_tuple_getitem ?_ (args_tuple_getitem _ _)))
  show wpAny _ _ (Builtin.Tuple.tupleItemsOf (.ref t) >>= _) _ _ s
  refine wpAny_bind (tupleItemsOf_ ht ?_)
  refine wpAny_bind (wpAny_typeOf hTs ?_)
  rw [if_pos (by decide)]
  refine wpAny_bind (sliceApplied_rev (n := its.toArray.size) hs ?_)
  have hno : ¬ ((((its.toArray.size : Int) - 1) == 0 && (-1 : Int) == 1 && its.toArray.size == its.toArray.size) = true) := by
    intro q
    rw [Bool.and_eq_true, Bool.and_eq_true] at q
    exact absurd (eq_of_beq q.1.2) (by decide)
  show wpAny _ _ (if (((its.toArray.size : Int) - 1) == 0 && (-1 : Int) == 1 && its.toArray.size == its.toArray.size) = true then _ else _) _ _ s
  rw [if_neg hno, List.size_toArray, pick_rev]
  first
    | exact wpAny_bind (m := Builtin.Tuple.tupleExact _) (wpAny_newObj_type (wpAny_pure ⟨_, rfl, wpAny_pure h⟩) htake)
    | exact wpAny_bind (m := Builtin.Tuple.tupleExact _) (wpAny_newObj_type (wpAny_bind (wpAny_pure (wpAny_pure ⟨_, rfl, wpAny_pure h⟩))) htake)
    | exact wpAny_bind (wpAny_bind (m := Builtin.Tuple.tupleExact _) (wpAny_newObj_type (wpAny_pure (wpAny_pure ⟨_, rfl, wpAny_pure h⟩)) htake))
    | exact wpAny_bind (wpAny_bind (m := Builtin.Tuple.tupleExact _) (wpAny_newObj_type (wpAny_pure ⟨_, rfl, wpAny_pure h⟩) htake))
end
end HT
namespace VM
open PySem L2 PyProof.Rows
def tRevT (K : PySem.W.Frag) (te : TE) : TE := fun σ H Q => te σ H fun x H1 => ∃ a xs, x = .ref a ∧ SqT K H1 a xs ∧ ∀ p, H1 p = none → Q (.ref p) (upd H1 p (.tup xs.reverse))
theorem pe_revT {X : Cx} {e : Expr} {te : TE} {k : Nat} {p1 p2 p3 pos : Pos} (he : PE X e te) : PE X (.Subscript e (.Slice none none (some (.UnaryOp .USub (.Constant (.int 1) k p1) p2)) p3) pos) (tRevT X.K te) := by
  refine ⟨fun pins s σ H Q I h => ?_⟩
  refine Subscript_ (thn (he.run pins s σ H _ I h) fun v s1 ⟨x, H1, I1, r1, q1⟩ => ?_)
  obtain ⟨a, xs, ex, hx, q⟩ := q1
  subst ex
  cases r1
  have hst : PO X (some (.UnaryOp .USub (.Constant (.int 1) k p1) p2)) (tPart (tUn (rU fun i => .int (-i)) (tC (.int 1)))) := po_some (pe_un un_neg pe_int)
  refine wpAny_Slice (thn (po_none.run pins s1 σ H1 (fun o H2 => o = none ∧ H2 = H1) I1 ⟨rfl, rfl⟩) fun vl s2 ⟨l, H2, I2, pl, el, e2⟩ => ?_)
  subst el e2
  refine thn (po_none.run pins s2 σ H2 (fun o H3 => o = none ∧ H3 = H2) I2 ⟨rfl, rfl⟩) fun vu s3 ⟨u, H3, I3, pu, eu, e3⟩ => ?_
  subst eu e3
  refine thn (hst.run pins s3 σ H3 (fun o H4 => o = some (-1) ∧ H4 = H3) I3 ⟨1, rfl, -1, rfl, rfl, rfl⟩) fun vs s4 ⟨o, H4, I4, ps, eo, e4⟩ => ?_
  subst eo e4
  cases pl
  cases pu
  obtain ⟨tk, evs⟩ : ∃ tk, vs = .int (-1) tk := by
    cases ps
    exact ⟨_, rfl⟩
  subst evs
  have I5 : Inv X pins σ H4 { s4 with heap := s4.heap.push { cls := .type "slice", data := .fields #[.none, .none, .int (-1) tk] } } := I4.kept (t' := s4.toks) fun b ob q => Heap.get?_push_of_some _ q
  obtain ⟨its, r, ht, hz⟩ := I5.tuple hx
  have hlen := r.length
  show wpAny (model X.prog X.w) X.A (subscriptTail e (.Slice none none (some (.UnaryOp .USub (.Constant (.int 1) k p1) p2)) p3) (.ref a) (.ref s4.heap.objs.size)) (EP X pins σ Q) X.xe { s4 with heap := s4.heap.push { cls := .type "slice", data := .fields #[.none, .none, .int (-1) tk] } }
  refine tail_any (ops := [.ref a, .ref s4.heap.objs.size]) ht.typeIs (PyProof.Rows.slot_tuple_getitem.lookup) ?_ (by with_unfolding_all rfl)
  refine HT.getItem_tuple_rev ht (Heap.IsSliceOf.new _ .none .none (.int (-1) tk)) ?_ (by rw [← hlen]; exact hz)
  refine ⟨.ref _, _, I5.laid (t' := s4.toks) (o := .tup xs.reverse) (fun b ob q => Heap.get?_push_of_some _ q) (Nat.le_refl _) ?_, rfl, q _ (I5.hok.fresh (Nat.le_refl _))⟩
  exact ⟨by rw [List.length_reverse]; exact hz, _, r.reverse, IsTup.new _ _⟩
/-- lists and tuples turned round -/
def eRev (f : SE) : SE := fun F ρ μ => (f F ρ μ).bind fun v μ1 => match v.see μ1 with
  | some (.lst ds) => .ok (.new (.lst ds.reverse)) μ1
  | some (.tup ds) => .ok (.dat (.tup ds.reverse)) μ1
  | _ => .bad
theorem pe_or {X : Cx} {e : Expr} {t t' : TE} (h : PE X e t) (h' : PE X e t') : PE X e (fun σ H Q => t σ H Q ∨ t' σ H Q) := ⟨fun pins s σ H Q I q => q.elim (fun q => h.run pins s σ H Q I q) fun q => h'.run pins s σ H Q I q⟩
section
variable {X : Cx} {XC : Nat → Addr} {F : Fns} {W : WX} {e : Expr} {fe : SE} {k : Nat} {p1 p2 p3 pos : Pos}
theorem c_rev (he : PE X e (rdE X.K XC F W fe)) : PE X (.Subscript e (.Slice none none (some (.UnaryOp .USub (.Constant (.int 1) k p1) p2)) p3) pos) (rdE X.K XC F W (eRev fe)) :=
  PEimp (pe_or (pe_revL he) (pe_revT he)) fun σ H Q ⟨Acc, ι, ρ, μ, S, E, h⟩ => by
    unfold eRev at h
    cases er : fe F ρ μ with
    | bad => rw [er] at h; exact h.elim
    | exc x μ1 => rw [er] at h; exact .inl ⟨Acc, ι, ρ, μ, S, E, by rw [er]; exact h⟩
    | ok v μ1 =>
      rw [er] at h
      simp only [Res.bind] at h
      cases hs : v.see μ1 with
      | none => rw [hs] at h; exact h.elim
      | some d =>
        rw [hs] at h
        cases d <;> try exact h.elim
        · rename_i ds
          refine .inr ⟨Acc, ι, ρ, μ, S, E, ?_⟩
          rw [er]
          intro u H1 t1 r1
          obtain ⟨a, vs, rfl, tp, rp⟩ := seeT (see_ok t1.sim r1.1 hs)
          exact ⟨a, vs, rfl, tp.sq, fun p hp => h (.ref p) _ (t1.trans (t1.sim.up hp _)) ⟨t1.sim.newT hp (Reps.rev rp), trivial⟩⟩
        · rename_i ds
          refine .inl ⟨Acc, ι, ρ, μ, S, E, ?_⟩
          rw [er]
          intro u H1 t1 r1
          obtain ⟨a, vs, rfl, tp, rp⟩ := seeL (see_ok t1.sim r1.1 hs)
          exact ⟨a, vs, rfl, SqL.of tp, fun p hp => h (.ref p) _ (t1.trans (t1.sim.up hp _)) ⟨⟨p, rfl, t1.back hp, t1.sim.newL hp (Reps.rev rp)⟩, t1.sim.ownN hp (Reps.rev rp)⟩⟩
end
end VM
/-! repr of lists and tuples. -/
namespace VM
open PySem L2 PyProof.Rows
mutual
def D.rp : D → PyData
  | .non => .none
  | .bl b => .bool b
  | .int i => .int i
  | .str x => .str x
  | .tup ds => .tuple (rps ds)
  | .lst ds => .list (rps ds)
  | .dic _ _ => .dict []
  | .scr ns => .list (ns.map .int)
def rps : List D → List PyData
  | [] => []
  | d :: ds => d.rp :: rps ds
end
mutual
def D.flat : D → Bool
  | .dic _ _ => false
  | .tup ds => flats ds
  | .lst ds => flats ds
  | _ => true
def flats : List D → Bool
  | [] => true
  | d :: ds => d.flat && flats ds
end
section
variable {X : Cx} {pins : List (Addr × Obj)} {σ : L2.St} {H : Hp} {s : Shared} {L : Addr → Prop}
theorem reads_ints {h : Heap} : ∀ {ns : List Int} {us : List Value}, Vals (ns.map V.int) us → ∃ as, ReadsAll h us (ns.map .int) as
  | [], us, r => by cases r; exact ⟨_, .nil⟩
  | n :: ns, us, r => by
    cases r with
    | cons r t =>
      obtain ⟨k, rfl⟩ := r
      obtain ⟨as, q⟩ := reads_ints t
      exact ⟨_, .cons (.int n k) q⟩
mutual
theorem reads_of (I : Inv X pins σ H s) : ∀ (d : D) (v : V) (u : Value), d.flat = true → Rep X.K L H d v → RelV v u → ∃ as, Reads s.heap u d.rp as
  | .non, v, u, hf, r, ru => by
    have e : v = .non := by simpa only [Rep] using r
    subst e
    have ru : u = .none := ru
    subst ru
    exact ⟨_, by simp only [D.rp]; exact .none⟩
  | .bl b, v, u, hf, r, ru => by
    have e : v = .bl b := by simpa only [Rep] using r
    subst e
    have ru : u = .bool b := ru
    subst ru
    exact ⟨_, by simp only [D.rp]; exact .bool b⟩
  | .int i, v, u, hf, r, ru => by
    have e : v = .int i := by simpa only [Rep] using r
    subst e
    obtain ⟨t, rfl⟩ := ru
    exact ⟨_, by simp only [D.rp]; exact .int i t⟩
  | .str x, v, u, hf, r, ru => by
    have e : v = .str x := by simpa only [Rep] using r
    subst e
    obtain ⟨t, rfl⟩ := ru
    exact ⟨_, by simp only [D.rp]; exact .str x t⟩
  | .tup ds, v, u, hf, r, ru => by
    obtain ⟨a, vs, rfl, tp, rp⟩ := (by simpa only [Rep] using r : ∃ a vs, v = .ref a ∧ TupN X.K L H a vs ∧ Reps X.K L H ds vs)
    obtain rfl : u = .ref a := ru
    obtain ⟨its, rv, ⟨o, h1, h2, n, h3⟩, hz⟩ := I.tuple tp.sq
    obtain ⟨as, q⟩ := readsAll_of I ds vs its (by simpa only [D.flat] using hf) rp rv
    exact ⟨_, by simp only [D.rp]; exact .tuple h1 h2 h3 (by simpa using q)⟩
  | .lst ds, v, u, hf, r, ru => by
    obtain ⟨a, vs, rfl, tp, n, rp⟩ := (by simpa only [Rep] using r : ∃ a vs, v = .ref a ∧ H a = some (.lst vs) ∧ ¬ L a ∧ Reps X.K L H ds vs)
    obtain rfl : u = .ref a := ru
    obtain ⟨its, n, rv, h1, hz⟩ := I.lst tp
    obtain ⟨as, q⟩ := readsAll_of I ds vs its (by simpa only [D.flat] using hf) rp rv
    exact ⟨_, by simp only [D.rp]; exact .list h1 rfl rfl (by simpa using q)⟩
  | .dic _ _, v, u, hf, r, ru => by simp only [D.flat] at hf; cases hf
  | .scr ns, v, u, hf, r, ru => by
    obtain ⟨a, rfl, tp⟩ := (by simpa only [Rep] using r : ∃ a, v = .ref a ∧ LstN X.K L H a (ns.map V.int))
    obtain rfl : u = .ref a := ru
    obtain ⟨its, rv, p, hz⟩ := I.list tp.sq
    obtain ⟨o, h1, h2, n, h3⟩ := p.isList
    obtain ⟨as, q⟩ := reads_ints (h := s.heap) rv
    exact ⟨_, by simp only [D.rp]; exact .list h1 h2 h3 (by simpa using q)⟩
theorem readsAll_of (I : Inv X pins σ H s) : ∀ (ds : List D) (vs : List V) (us : List Value), flats ds = true → Reps X.K L H ds vs → Vals vs us → ∃ as, ReadsAll s.heap us (rps ds) as
  | [], vs, us, hf, r, ru => by
    rw [r.invN] at ru
    cases ru
    exact ⟨_, by simp only [rps]; exact .nil⟩
  | d :: ds, vs, us, hf, r, ru => by
    obtain ⟨v, rs, rfl, h1, h2⟩ := r.inv
    cases ru with
    | cons ru rr =>
      rename_i u us
      simp only [flats, Bool.and_eq_true] at hf
      obtain ⟨as, q⟩ := reads_of I d v u hf.1 h1 ru
      obtain ⟨bs, p⟩ := readsAll_of I ds rs us hf.2 h2 rr
      exact ⟨_, by simp only [rps]; exact .cons q p⟩
end
mutual
theorem flat_nodict : ∀ d : D, d.flat = true → d.rp.hasDict = false
  | .non, _ => by simp only [D.rp, PyData.hasDict]
  | .bl _, _ => by simp only [D.rp, PyData.hasDict]
  | .int _, _ => by simp only [D.rp, PyData.hasDict]
  | .str _, _ => by simp only [D.rp, PyData.hasDict]
  | .tup ds, h => by simp only [D.rp, PyData.hasDict]; exact flats_nodict ds (by simpa only [D.flat] using h)
  | .lst ds, h => by simp only [D.rp, PyData.hasDict]; exact flats_nodict ds (by simpa only [D.flat] using h)
  | .dic _ _, h => by simp only [D.flat] at h; cases h
  | .scr ns, _ => by
    simp only [D.rp, PyData.hasDict]
    have z : ∀ ns : List Int, PyData.hasDictAll (ns.map PyData.int) = false := by
      intro ns
      induction ns with
      | nil => simp only [List.map_nil, PyData.hasDictAll]
      | cons n ns ih => rw [List.map_cons]; simp only [PyData.hasDictAll, PyData.hasDict, ih, Bool.or_false]
    exact z ns
theorem flats_nodict : ∀ ds : List D, flats ds = true → PyData.hasDictAll (rps ds) = false
  | [], _ => by simp only [rps, PyData.hasDictAll]
  | d :: ds, h => by
    simp only [flats, Bool.and_eq_true] at h
    simp only [rps, PyData.hasDictAll, flat_nodict d h.1, flats_nodict ds h.2, Bool.or_false]
end
end
def reprOk (d : D) : Bool := d.flat && d.rp.showable && decide (d.rp.depth ≤ 150) && decide (d.rp.shown.length ≤ LIM)
def isSeq : D → Bool
  | .tup _ => true
  | .lst _ => true
  | .scr _ => true
  | _ => false
/-- what repr gives -/
def fRepr : List D → Option EV
  | [d] => if isSeq d && reprOk d then some (.dat (.str d.rp.shown)) else none
  | _ => none
def rReprD (K : PySem.W.Frag) : List V → Hp → VK → Prop := fun xs H Q => ∃ (L : Addr → Prop) (d : D) (v : V), xs = [v] ∧ SeeR K L H d v ∧ isSeq d = true ∧ reprOk d = true ∧ Q (.str d.rp.shown) H
theorem call_reprD {X : Cx} (hG : X.A.guards = some []) (hu : X.A.units + 152 < cLine) : CallR X (.builtin "repr") (rReprD X.K) := by
  intro pins s σ H xs us Q I r h
  obtain ⟨L, d, v, rfl, rs, hq, hok, q⟩ := h
  obtain ⟨u, rfl, ru⟩ := Vals.one r
  simp only [reprOk, Bool.and_eq_true, decide_eq_true_eq] at hok
  obtain ⟨⟨⟨hf, hs⟩, hd⟩, hz⟩ := hok
  have fin : ∀ a : Addr, (∃ as, Reads s.heap (.ref a) d.rp as) → wpAny (model X.prog X.w) X.A (call (.builtin "repr") [.ref a]) (EP X pins σ Q) X.xe s := fun a ⟨as, rd⟩ =>
    repr_of_reads' rd hs (fun z => by rw [flat_nodict d hf] at z; cases z) hG (by omega) (fun b o e => e) (fun h' t tk hk => ⟨.str d.rp.shown, H, I.kept (t' := tk) hk, ⟨t, rfl⟩, q⟩) (lim_ok hz)
  cases d <;> try (cases hq; done)
  · rename_i ds
    obtain ⟨a, vs, rfl, tp, rp⟩ := seeT rs
    obtain rfl : u = .ref a := ru
    exact fin a (reads_of I (.tup ds) (.ref a) (.ref a) hf (by simp only [Rep]; exact ⟨a, vs, rfl, tp, rp⟩) rfl)
  · rename_i ds
    obtain ⟨a, vs, rfl, tp, rp⟩ := seeL rs
    obtain rfl : u = .ref a := ru
    refine fin a ?_
    obtain ⟨its, n, rv, h1, _⟩ := I.lst tp
    obtain ⟨as, q⟩ := readsAll_of I ds vs its (by simpa only [D.flat] using hf) rp rv
    exact ⟨_, by simp only [D.rp]; exact .list h1 rfl rfl (by simpa using q)⟩
  · rename_i ns
    obtain ⟨a, rfl, tp⟩ := (by simpa only [SeeR, Rep] using rs : ∃ a, v = .ref a ∧ LstN X.K L H a (ns.map V.int))
    obtain rfl : u = .ref a := ru
    exact fin a (reads_of I (.scr ns) (.ref a) (.ref a) hf (by simp only [Rep]; exact ⟨a, rfl, tp⟩) rfl)
theorem on_repr {K : PySem.W.Frag} : OpN K fRepr (rReprD K) := by
  intro Acc ι μ H ds xs e Q S r h q
  cases ds with
  | nil => cases h
  | cons d t =>
    cases t with
    | cons _ _ => cases h
    | nil =>
      obtain ⟨v, rs, rfl, h1, h2⟩ := r
      have h2 : rs = [] := h2
      subst h2
      simp only [fRepr] at h
      split at h
      case isFalse => cases h
      case isTrue hz =>
        cases h
        rw [Bool.and_eq_true] at hz
        exact ⟨_, d, v, rfl, h1, hz.1, hz.2, q _ H (.refl S) ⟨rfl, trivial⟩⟩
end VM
/-! sorted: lists of tuples of ints, of any lengths. -/
namespace VM
open PySem PySem.W L2 PyProof.Rows
open HT (lexLt)
theorem lex_asym : ∀ a b : List Int, lexLt a b = true → lexLt b a = false
  | [], [], h => by cases h
  | [], _ :: _, _ => rfl
  | _ :: _, [], h => by cases h
  | x :: xs, y :: ys, h => by
    rw [HT.lexLt_cons] at h ⊢
    by_cases e : x = y
    · subst e
      rw [if_pos rfl] at h ⊢
      exact lex_asym xs ys h
    · rw [if_neg e, decide_eq_true_eq] at h
      rw [if_neg (Ne.symm e)]
      exact decide_eq_false (by omega)
theorem lex_tr : ∀ a b c : List Int, lexLt b a = false → lexLt c b = false → lexLt c a = false
  | [], [], [], _, _ => rfl
  | [], [], _ :: _, _, _ => rfl
  | [], _ :: _, [], _, _ => rfl
  | [], _ :: _, _ :: _, _, _ => rfl
  | _ :: _, [], _, h, _ => by cases h
  | _ :: _, _ :: _, [], _, h => by cases h
  | x :: xs, y :: ys, z :: zs, h1, h2 => by
    rw [HT.lexLt_cons] at h1 h2 ⊢
    by_cases e1 : y = x
    · by_cases e2 : z = y
      · rw [if_pos e1] at h1
        rw [if_pos e2] at h2
        rw [if_pos (e2.trans e1)]
        exact lex_tr xs ys zs h1 h2
      · rw [if_neg e2] at h2
        have h2 := of_decide_eq_false h2
        rw [if_neg (by omega)]
        exact decide_eq_false (by omega)
    · rw [if_neg e1] at h1
      have h1 := of_decide_eq_false h1
      by_cases e2 : z = y
      · rw [if_neg (by omega)]
        exact decide_eq_false (by omega)
      · rw [if_neg e2] at h2
        have h2 := of_decide_eq_false h2
        rw [if_neg (by omega)]
        exact decide_eq_false (by omega)
theorem lex_eq : ∀ a b : List Int, lexLt a b = false → lexLt b a = false → a = b
  | [], [], _, _ => rfl
  | [], _ :: _, h, _ => by cases h
  | _ :: _, [], _, h => by cases h
  | x :: xs, y :: ys, h1, h2 => by
    rw [HT.lexLt_cons] at h1 h2
    by_cases e : x = y
    · subst e
      rw [if_pos rfl] at h1 h2
      rw [lex_eq xs ys h1 h2]
    · rw [if_neg e] at h1
      rw [if_neg (Ne.symm e)] at h2
      have h1 := of_decide_eq_false h1
      have h2 := of_decide_eq_false h2
      omega
theorem lex_swo (k : Value → List Int) : SrtO.Swo fun v u => lexLt (k v) (k u) := ⟨fun x y h => lex_asym _ _ h, fun x y z h1 h2 => lex_tr _ _ _ h1 h2⟩
section
variable {prog : Program} {w : World} {A : Around} {E : Value → Shared → Prop} {s : Shared}
theorem zip_lex {b : Bool} {Q : Bool → Shared → Prop} : ∀ (us vs : List Value) (ns ms : List Int) (i : Nat), IntsAre us ns → IntsAre vs ms → Q (lexLt ns ms) s → KatLex prog w A b (decide (us.length < vs.length)) Q (us.zip vs) i s
  | [], [], _, _, i, h1, h2, q => by
    cases h1; cases h2
    exact kat_nil q
  | [], _ :: _, _, _, i, h1, h2, q => by
    cases h1; cases h2
    exact kat_nil (by rw [decide_eq_true (by simp)]; exact q)
  | _ :: _, [], _, _, i, h1, h2, q => by
    cases h1; cases h2
    exact kat_nil (by rw [decide_eq_false (by simp)]; exact q)
  | u :: us, v :: vs, _, _, i, h1, h2, q => by
    cases h1 with
    | cons x t h1 =>
      cases h2 with
      | cons y t' h2 =>
        rw [HT.lexLt_cons] at q
        rw [List.zip_cons_cons]
        refine kat_cons (SeqAt.EqAt.int_int x t y t' prog w _ _ (kat_go (fun e => ?_) (fun e => ?_)))
        · have e : x = y := by simpa using e
          rw [if_pos e] at q
          refine kat_yes ?_
          have := zip_lex (b := b) us vs _ _ (i + 1) h1 h2 q
          rw [show decide ((Value.int x t :: us).length < (Value.int y t' :: vs).length) = decide (us.length < vs.length) from by simp]
          exact this
        · have e : ¬ x = y := by simpa using e
          rw [if_neg e] at q
          exact kat_no (oneLt_any_int q)
def TupsF (h : Heap) : List Value → List (Option Value) → Prop
  | [], [] => True
  | v :: vs, f :: fs => (∃ a o xs n, v = .ref a ∧ h.get? a = some o ∧ o.cls = .type "tuple" ∧ o.data = .seq xs n ∧ xs[0]? = f) ∧ TupsF h vs fs
  | _, _ => False
theorem firsts_any {M : Model} : ∀ (vs : List Value) (fs : List (Option Value)) {Q : List (Option Value) → Shared → Prop}, TupsF s.heap vs fs → Q fs s → wpAny M A (vs.mapM firstOfTuple') Q E s
  | [], [], _, _, h => by rw [List.mapM_nil]; exact wpAny_pure h
  | [], _ :: _, _, t, _ => t.elim
  | _ :: _, [], _, t, _ => t.elim
  | v :: vs, f :: fs, Q, t, h => by
    obtain ⟨⟨a, o, xs, n, rfl, ho, hc, hd, hf⟩, t⟩ := t
    rw [List.mapM_cons, kas_first_eq]
    refine wpAny_bind (wpAny_bind (Looks.here (show Looks M s.heap (typeOf (.ref a)) o.cls from (Looks.ld ho).andThen .now) ?_))
    rw [hc, if_neg (by first | decide | simp)]
    refine wpAny_bind (listItems_at ho hd (wpAny_pure ?_))
    rw [hf]
    exact wpAny_bind (firsts_any vs fs (Q := fun bs s' => wpAny M A (pure (f :: bs)) Q E s') t (wpAny_pure h))
theorem tupsF_of {h : Heap} {k : Value → List Int} : ∀ {vs : List Value}, (∀ v ∈ vs, TS.TupInts h v (k v)) → ∃ fs, TupsF h vs fs ∧ ∀ f ∈ fs, ∀ x, f = some x → ∃ i t, x = Value.int i t
  | [], _ => ⟨[], trivial, fun f hf => by simp at hf⟩
  | v :: vs, hv => by
    obtain ⟨a, xs, rfl, ⟨o, ho, hc, n, hd⟩, hi⟩ := hv v List.mem_cons_self
    obtain ⟨fs, h1, h2⟩ := tupsF_of fun u hu => hv u (List.mem_cons_of_mem _ hu)
    refine ⟨xs[0]? :: fs, ⟨⟨a, o, xs, n, rfl, ho, hc, hd, rfl⟩, h1⟩, fun f hf x e => ?_⟩
    rcases List.mem_cons.mp hf with rfl | hf
    · obtain ⟨l⟩ := xs
      cases l with
      | nil => simp at e
      | cons y l =>
        have e : y = x := by simpa using e
        subst e
        generalize k (Value.ref a) = ns at hi
        cases hi with
        | cons i t _ => exact ⟨_, _, rfl⟩
    · exact h2 f hf x e
theorem katTups_of {h : Heap} : ∀ {vs : List Value} {fs : List (Option Value)}, TupsF h vs fs → (fs.all fun x => x.isSome) = true → KatTups h vs (fs.filterMap id)
  | [], [], _, _ => trivial
  | [], _ :: _, t, _ => t.elim
  | _ :: _, [], t, _ => t.elim
  | v :: vs, f :: fs, t, hall => by
    rw [List.all_cons, Bool.and_eq_true] at hall
    cases f with
    | none => cases hall.1
    | some x => exact ⟨t.1, katTups_of t.2 hall.2⟩
theorem tup_at {v : Value} {ns : List Int} (h : TS.TupInts s.heap v ns) : ∃ a o xs n, v = .ref a ∧ s.heap.get? a = some o ∧ o.cls = .type "tuple" ∧ o.data = .seq xs n ∧ IntsAre xs.toList ns := by
  obtain ⟨a, xs, rfl, ⟨o, ho, hc, n, hd⟩, hi⟩ := h
  exact ⟨a, o, xs, n, rfl, ho, hc, hd, hi⟩
theorem lt_tuples {v u : Value} {ns ms : List Int} {b : Bool} {Q : Bool → Shared → Prop} (hv : TS.TupInts s.heap v ns) (hw : TS.TupInts s.heap u ms) (q : Q (lexLt ns ms) s) : wpAny (model prog w) A (keyLt' (tuples' b) v u) Q (fun _ _ => False) s := by
  obtain ⟨a, o, xs, n, rfl, ho, hc, hd, hi⟩ := tup_at hv
  obtain ⟨a2, o2, xs2, n2, rfl, ho2, hc2, hd2, hi2⟩ := tup_at hw
  refine kat_lt ho hd ho2 hd2 ?_
  rw [← Array.length_toList, ← Array.length_toList]
  exact zip_lex _ _ _ _ 0 hi hi2 q
theorem lt_general {v u : Value} {ns ms : List Int} {Q : Bool → Shared → Prop} (hu : A.units < cLine) (hv : TS.TupInts s.heap v ns) (hw : TS.TupInts s.heap u ms) (q : Q (lexLt ns ms) s) : wpAny (model prog w) A (keyLt' general' v u) Q (fun _ _ => False) s := by
  obtain ⟨a, xs, rfl, t, hi⟩ := hv
  obtain ⟨a2, xs2, rfl, t2, hi2⟩ := hw
  show wpAny (model prog w) A (oneLt' false (.ref a) (.ref a2)) Q (fun _ _ => False) s
  exact kat_one _ _ (HT.lt_tupInts t t2 hi hi2 hu q)
theorem lt_one {v u : Value} {ns ms : List Int} {Q : Bool → Shared → Prop} (hu : A.units < cLine) (hv : TS.TupInts s.heap v ns) (hw : TS.TupInts s.heap u ms) (q : Q (lexLt ns ms) s) : wpAny (model prog w) A (keyLt' oneType' v u) Q (fun _ _ => False) s := by
  obtain ⟨a, xs, rfl, ⟨⟨cls, dd, data, sl⟩, ho, hc, n, hd⟩, hi⟩ := hv
  obtain ⟨a2, xs2, rfl, ⟨⟨cls2, dd2, data2, sl2⟩, ho2, hc2, n2, hd2⟩, hi2⟩ := hw
  simp only at hc hd hc2 hd2
  subst hc hd hc2 hd2
  rw [keyLt'_oneType, oneLt'_eq]
  simp only [if_true]
  refine wpAny_bind (wpAny_cRoomFor hu ?_)
  refine wpAny_bind (wpAny_callSpecialIfBound?_slot ⟨_, ho, rfl⟩ PySem.F.slot_tuple_lt (call_meets PySem.F.slot_tuple_lt ⟨_, ho, rfl⟩ PySem.F.entry_tuple_lt (PySem.F.args_tuple_lt_2 _ _) (HT.tuple_lt_ints a a2 xs xs2 n n2 dd dd2 sl sl2 ns ms hi hi2) ⟨ho, ho2, ?_⟩))
  exact wpAny_truthy_bool q
end

section
variable {prog : Program} {w : World} {A : Around} {s : Shared}
theorem kind_tuples {vs : List Value} {k : Value → List Int} (h2 : 0 < vs.length) (hu : A.units < cLine) (hv : ∀ v ∈ vs, TS.TupInts s.heap v (k v)) : ∃ κ,
    (∀ (Q : SortKind → Shared → Prop) (E : Value → Shared → Prop), Q κ s → wpAny (model prog w) A (keyKind' vs.toArray) Q E s) ∧ SrtO.Cmp prog w A s κ (fun p => p.1 ∈ vs) (SrtO.lt2 fun v u => lexLt (k v) (k u)) := by
  obtain ⟨fs, tf, hf⟩ := tupsF_of hv
  by_cases hall : (fs.all fun x => x.isSome) = true
  · refine ⟨tuples' true, fun Q E q => ?_, fun p r hp hr => lt_tuples (hv _ hp) (hv _ hr) ⟨rfl, rfl⟩⟩
    have kt := katTups_of tf hall
    have hl : 0 < (fs.filterMap id).length := by
      cases vs with
      | nil => simp at h2
      | cons v vs =>
        cases fs with
        | nil => exact tf.elim
        | cons f fs =>
          rw [List.all_cons, Bool.and_eq_true] at hall
          cases f with
          | none => cases hall.1
          | some x => simp
    refine kat_kind (T := .type "int") kt hl (fun f hm => ?_) (by rfl) ?_
    · obtain ⟨o, ho, e⟩ := List.mem_filterMap.mp hm
      obtain ⟨i, t, rfl⟩ := hf o ho f e
      exact PySem.W.Looks.now
    · have e : (Value.type "int" != Value.type "tuple") = true := by first | decide +kernel | rfl | decide
      rw [e]
      exact q
  · have hall2 : ¬ (fs.toArray.all fun x => x.isSome) = true := by simpa using hall
    by_cases h0 : ((fs.toArray[0]?).bind id).isSome = true
    · refine ⟨general', fun Q E q => ?_, fun p r hp hr => lt_general hu (hv _ hp) (hv _ hr) ⟨rfl, rfl⟩⟩
      rw [kat_kind_eq, List.mapM_toArray, map_eq_pure_bind]
      refine wpAny_bind (wpAny_bind (firsts_any vs _ tf (wpAny_pure ?_)))
      rw [if_neg hall2, if_pos h0]
      exact wpAny_pure q
    · refine ⟨oneType', fun Q E q => ?_, fun p r hp hr => lt_one hu (hv _ hp) (hv _ hr) ⟨rfl, rfl⟩⟩
      rw [kat_kind_eq, List.mapM_toArray, map_eq_pure_bind]
      refine wpAny_bind (wpAny_bind (firsts_any vs _ tf (wpAny_pure ?_)))
      rw [if_neg hall2, if_neg h0]
      rw [oneTypeOnly'_eq, List.mapM_toArray, map_eq_pure_bind]
      refine wpAny_bind (wpAny_bind (wpAny_bind (kas_mapM (r := Value.type "tuple") _ (fun v hm Q' hq => ?_) (wpAny_pure ?_))))
      · obtain ⟨a, o, xs, n, rfl, ho, hc, _, _⟩ := tup_at (hv v hm)
        have lk : Looks (model prog w) s.heap (typeOf (.ref a)) o.cls := (Looks.ld ho).andThen .now
        rw [hc] at lk
        exact lk.here hq
      · obtain ⟨v, vr, rfl⟩ : ∃ v vr, vs = v :: vr := by
          cases vs with
          | nil => simp at h2
          | cons v vr => exact ⟨v, vr, rfl⟩
        have h00 : (List.map (fun _ => Value.type "tuple") (v :: vr)).toArray[0]? = some (Value.type "tuple") := by simp
        have ha : ((List.map (fun _ => Value.type "tuple") (v :: vr)).toArray.all fun x => x == Value.type "tuple") = true := by
          simp only [List.all_toArray, List.all_map, List.all_eq_true]
          intro _ _
          rfl
        rw [h00]
        simp only [ha, if_true]
        exact wpAny_pure (wpAny_pure q)
theorem tuples_sortable {a : Addr} {vs : List Value} {k : Value → List Int} (h2 : 0 < vs.length) (hu : A.units < cLine) (hv : ∀ v ∈ vs, TS.TupInts s.heap v (k v)) (ha : ∀ o, s.heap.get? a = some o → o.cls ≠ .type "tuple") :
    SrtO.SortableO prog w A s a vs fun v u => lexLt (k v) (k u) := by
  intro h' keep
  refine kind_tuples (s := { s with heap := h' }) h2 hu fun v hm => ?_
  obtain ⟨b, xs, e, ⟨o, ho, hc, hd⟩, hi⟩ := hv v hm
  exact ⟨b, xs, e, ⟨o, keep b o (fun z => by subst z; exact ha o ho hc) ho, hc, hd⟩, hi⟩
end
/-- sorted(xs), xs a list of tuples of ints, any number of them, of any lengths -/
def rSortT (K : PySem.W.Frag) : List V → Hp → VK → Prop := fun vs H Q => ∃ (a : Addr) (xs : List V), vs = [V.ref a] ∧ SqL K H a xs ∧ (∀ x ∈ xs, ∃ ns, TupI K H x ns) ∧
  ∀ (ys : List V) (p : Addr), (∀ x n m, TupI K H x n → TupI K H x m → n = m) → ys.Perm xs → ys.Pairwise (fun x y => ∀ n m, TupI K H x n → TupI K H y m → lexLt m n = false) → H p = none → Q (.ref p) (upd H p (.lst ys))
theorem call_sortT {X : Cx} (hu : X.A.units + 64 < cLine) : CallR X (.builtin "sorted") (rSortT X.K) := by
  intro pins s σ H vs us Q I r h
  obtain ⟨a, xs, rfl, hs, hx, q⟩ := h
  obtain ⟨its, rv, hl, hz⟩ := I.list hs
  obtain ⟨u, rfl, ru⟩ := vals1 r
  obtain rfl : u = Value.ref a := ru
  obtain ⟨e1, e2⟩ := refs_back rv fun x m => by
    obtain ⟨ns, t, e, _⟩ := hx x m
    exact ⟨t, e⟩
  have hT : ∀ v ∈ its, TS.TupInts s.heap v (TS.intsOf s.heap v) := fun v hm => by
    obtain ⟨t, rfl⟩ := e2 v hm
    have hm' : V.ref t ∈ xs := by rw [e1]; exact List.mem_map.mpr ⟨_, hm, rfl⟩
    obtain ⟨ns, t', e, ht⟩ := hx _ hm'
    cases e
    have z := tupI_raw I ht
    rw [z.ints]
    exact z
  refine SrtO.sorted_ord (lex_swo (TS.intsOf s.heap)) hl.isList (by rw [← rv.length]; exact hz) (fun h2 h₁ b hb kk => ?_) fun out h1 h2 => ?_
  · refine tuples_sortable (s := { s with heap := h₁ }) (by omega) (by show X.A.units + 1 + 1 < cLine; omega) (fun v hm => ?_) fun o e => ?_
    · obtain ⟨c, xs2, e, ⟨o, ho, hc, hd⟩, hi⟩ := hT v hm
      exact ⟨c, xs2, e, ⟨o, (kk c o ho).2, hc, hd⟩, hi⟩
    · have e' : some o = some (seqObj "list" its.toArray 0) := e.symm.trans hb
      cases e'
      intro c
      exact absurd (Value.type.inj c) (by decide)
  · have h3 : ∀ u ∈ out, ∃ a, u = Value.ref a := fun u hu => e2 u (h2.perm.mem_iff.mp hu)
    obtain ⟨n, hn⟩ := sortedAll_at s.heap its out.toArray
    have hp : (out.map backV).Perm xs := by
      rw [e1]
      exact h2.perm.map backV
    refine ⟨.ref _, upd H (s.heap.objs.size + 1) (.lst (out.map backV)), I.laid (t' := s.toks) (fun _ _ => sortedAll_old) (Nat.le_succ _) ⟨?_, out, n, vals_back h3, hn⟩, rfl, q _ _ (fun x n m h1 h2 => ?_) hp ?_ (I.hok.fresh (Nat.le_succ _))⟩
    · rw [hp.length_eq]
      exact hz
    · obtain ⟨t, rfl, z1⟩ := h1
      obtain ⟨t', e, z2⟩ := h2
      cases e
      exact (tupI_raw I z1).ints.symm.trans (tupI_raw I z2).ints
    · rw [List.pairwise_map]
      refine List.Pairwise.imp_of_mem (fun {u v} hu hv huv n m hn hm => ?_) h1
      obtain ⟨t, rfl⟩ := h3 u hu
      obtain ⟨t', rfl⟩ := h3 v hv
      obtain ⟨t1, e, ht⟩ := hn
      obtain ⟨t2, e', ht'⟩ := hm
      cases e
      cases e'
      have z1 := (tupI_raw I ht).ints
      have z2 := (tupI_raw I ht').ints
      rw [← z1, ← z2]
      exact huv

/-! ### on trees -/
def insL (x : List Int) : List (List Int) → List (List Int)
  | [] => [x]
  | y :: ys => if lexLt y x then y :: insL x ys else x :: y :: ys
def sortL : List (List Int) → List (List Int)
  | [] => []
  | x :: xs => insL x (sortL xs)
theorem insL_perm (x : List Int) : ∀ l, (insL x l).Perm (x :: l)
  | [] => .refl _
  | y :: ys => by
    unfold insL
    split
    · exact ((insL_perm x ys).cons y).trans (.swap x y ys)
    · exact .refl _
theorem sortL_perm : ∀ l, (sortL l).Perm l
  | [] => .refl _
  | x :: xs => by
    unfold sortL
    exact (insL_perm x _).trans ((sortL_perm xs).cons x)
abbrev SrtL (l : List (List Int)) : Prop := l.Pairwise fun a b => HT.lexLt b a = false
theorem insL_srt (x : List Int) : ∀ l, SrtL l → SrtL (insL x l)
  | [], _ => List.pairwise_singleton _ _
  | y :: ys, h => by
    obtain ⟨h1, h2⟩ := List.pairwise_cons.mp h
    unfold insL
    by_cases c : lexLt y x = true
    · rw [if_pos c]
      refine List.pairwise_cons.mpr ⟨fun z hz => ?_, insL_srt x ys h2⟩
      rcases List.mem_cons.mp ((insL_perm x ys).mem_iff.mp hz) with rfl | hz
      · exact lex_asym _ _ c
      · exact h1 z hz
    · rw [if_neg c]
      have c' : lexLt y x = false := by simpa using c
      refine List.pairwise_cons.mpr ⟨fun z hz => ?_, h⟩
      rcases List.mem_cons.mp hz with rfl | hz
      · exact c'
      · exact lex_tr _ _ _ c' (h1 z hz)
theorem sortL_srt : ∀ l, SrtL (sortL l)
  | [] => List.Pairwise.nil
  | x :: xs => insL_srt x _ (sortL_srt xs)
theorem srt_uniq : ∀ {l m : List (List Int)}, SrtL l → SrtL m → l.Perm m → l = m
  | [], m, _, _, p => by rw [List.Perm.nil_eq p]
  | x :: l, [], _, _, p => absurd p.symm.nil_eq (by simp)
  | x :: l, y :: m, h1, h2, p => by
    obtain ⟨a1, a2⟩ := List.pairwise_cons.mp h1
    obtain ⟨b1, b2⟩ := List.pairwise_cons.mp h2
    have e : x = y := by
      have c1 : lexLt y x = false := by
        rcases List.mem_cons.mp (p.mem_iff.mpr (List.mem_cons_self (a := y) (l := m))) with e | hy
        · rw [e]; exact (lex_swo (fun _ => x)).refl .none
        · exact a1 y hy
      have c2 : lexLt x y = false := by
        rcases List.mem_cons.mp (p.mem_iff.mp (List.mem_cons_self (a := x) (l := l))) with e | hy
        · rw [e]; exact (lex_swo (fun _ => y)).refl .none
        · exact b1 x hy
      exact lex_eq _ _ c2 c1
    subst e
    rw [srt_uniq a2 b2 p.cons_inv]
def intsD : List D → Option (List Int)
  | [] => some []
  | .int i :: ds => (intsD ds).map (i :: ·)
  | _ :: _ => none
def tupsD : List D → Option (List (List Int))
  | [] => some []
  | .tup es :: ds => match intsD es, tupsD ds with
    | some n, some r => some (n :: r)
    | _, _ => none
  | _ :: _ => none
def ofTup (ns : List Int) : D := .tup (ns.map .int)
theorem intsD_eq : ∀ {ds : List D} {ns : List Int}, intsD ds = some ns → ds = ns.map .int
  | [], ns, h => by cases h; rfl
  | d :: ds, ns, h => by
    cases d <;> simp only [intsD, reduceCtorEq] at h
    cases e : intsD ds with
    | none => rw [e] at h; cases h
    | some m =>
      rw [e] at h
      cases h
      rw [intsD_eq e]; rfl
theorem tupsD_eq : ∀ {ds : List D} {ns : List (List Int)}, tupsD ds = some ns → ds = ns.map ofTup
  | [], ns, h => by cases h; rfl
  | d :: ds, ns, h => by
    cases d <;> simp only [tupsD, reduceCtorEq] at h
    rename_i es
    cases e1 : intsD es with
    | none => rw [e1] at h; simp at h
    | some n =>
      cases e2 : tupsD ds with
      | none => rw [e1, e2] at h; simp at h
      | some r =>
        rw [e1, e2] at h
        simp only at h
        cases h
        rw [tupsD_eq e2, intsD_eq e1]; rfl
def fSorted : List D → Option EV
  | [.lst ds] => if ds.length ≤ LIM then (tupsD ds).map fun n => .new (.lst ((sortL n).map ofTup)) else none
  | _ => none
section
variable {K : PySem.W.Frag} {L : Addr → Prop} {H : Hp}
theorem rep_tupI {ns : List Int} {v : V} (r : Rep K L H (ofTup ns) v) : TupI K H v ns := by
  obtain ⟨a, vs, rfl, tp, rp⟩ := (by simpa only [ofTup, Rep] using r : ∃ a vs, v = .ref a ∧ TupN K L H a vs ∧ Reps K L H (ns.map D.int) vs)
  refine ⟨a, rfl, ?_⟩
  have : vs = ns.map V.int := by
    clear tp r
    induction ns generalizing vs with
    | nil => exact rp.invN
    | cons n ns ih =>
      obtain ⟨v, rs, rfl, h1, h2⟩ := rp.inv
      have : v = .int n := by simpa only [Rep] using h1
      rw [this, ih rs h2]; rfl
  rw [← this]
  exact tp.sq
theorem reps_all {ns : List (List Int)} {vs : List V} (r : Reps K L H (ns.map ofTup) vs) : ∀ x ∈ vs, ∃ n, TupI K H x n ∧ Rep K L H (ofTup n) x := by
  induction ns generalizing vs with
  | nil => rw [r.invN]; intro x hx; simp at hx
  | cons n ns ih =>
    obtain ⟨v, rs, rfl, h1, h2⟩ := r.inv
    intro x hx
    rcases List.mem_cons.mp hx with rfl | hx
    · exact ⟨n, rep_tupI h1, h1⟩
    · exact ih h2 x hx
theorem reps_fun {f : V → List Int} (hf : ∀ x n, TupI K H x n → f x = n) {ns : List (List Int)} {vs : List V} (r : Reps K L H (ns.map ofTup) vs) : vs.map f = ns := by
  induction ns generalizing vs with
  | nil => rw [r.invN]; rfl
  | cons n ns ih =>
    obtain ⟨v, rs, rfl, h1, h2⟩ := r.inv
    rw [List.map_cons, hf v n (rep_tupI h1), ih h2]
theorem of_fun {f : V → List Int} : ∀ {vs : List V}, (∀ x ∈ vs, Rep K L H (ofTup (f x)) x) → Reps K L H ((vs.map f).map ofTup) vs
  | [], _ => Reps.nil
  | v :: vs, h => Reps.cons (h v List.mem_cons_self) (of_fun fun x hx => h x (List.mem_cons_of_mem _ hx))
end
theorem on_sorted {K : PySem.W.Frag} : OpN K fSorted (rSortT K) := by
  intro Acc ι μ H ds xs e Q S r h q
  cases ds with
  | nil => cases h
  | cons d t =>
    cases t with
    | cons _ _ => cases d <;> cases h
    | nil =>
      obtain ⟨v, rs, rfl, h1, h2⟩ := r
      have h2 : rs = [] := h2
      subst h2
      cases d <;> try (cases h; done)
      rename_i ds
      obtain ⟨a, vs, rfl, tp, rp⟩ := seeL h1
      simp only [fSorted] at h
      split at h
      case isFalse => cases h
      case isTrue hz =>
        cases hT : tupsD ds with
        | none => rw [hT] at h; cases h
        | some ns =>
          rw [hT] at h
          cases h
          have ed := tupsD_eq hT
          subst ed
          refine ⟨a, vs, rfl, SqL.of tp, fun x hx => let ⟨n, h, _⟩ := reps_all rp x hx; ⟨n, h⟩, fun ys p uq hp hs np => ?_⟩
          -- each item's numbers
          let f : V → List Int := fun x => open Classical in if h : ∃ n, TupI K H x n then h.choose else []
          have hf : ∀ x n, TupI K H x n → f x = n := fun x n h => by
            have hx : ∃ n, TupI K H x n := ⟨n, h⟩
            show (open Classical in if h : ∃ n, TupI K H x n then h.choose else []) = n
            rw [dif_pos hx]
            exact uq x _ _ hx.choose_spec h
          have e1 : vs.map f = ns := reps_fun hf rp
          have hrep : ∀ x ∈ ys, Rep K (Liv Acc μ ι) H (ofTup (f x)) x := fun x hx => by
            obtain ⟨n, t, r⟩ := reps_all rp x (hp.mem_iff.mp hx)
            rw [hf x n t]; exact r
          have e2 : ys.map f = sortL ns := by
            refine srt_uniq ?_ (sortL_srt ns) ?_
            · rw [SrtL, List.pairwise_map]
              refine List.Pairwise.imp_of_mem (fun {x y} hx hy h => ?_) hs
              obtain ⟨n, t, _⟩ := reps_all rp x (hp.mem_iff.mp hx)
              obtain ⟨m, t', _⟩ := reps_all rp y (hp.mem_iff.mp hy)
              rw [hf x n t, hf y m t']
              exact h n m t t'
            · rw [← e1]
              exact (hp.map f).trans (by rw [e1]; exact (sortL_perm ns).symm)
          have rr := of_fun hrep
          rw [e2] at rr
          exact q (.ref p) _ (S.up np _) ⟨⟨p, rfl, np, S.newL np rr⟩, S.ownN np rr⟩
end VM
/-! Words for the printed walks. -/
namespace VM
open PySem L2 PyProof.Rows
section
variable {X : Cx} {XC : Nat → Addr} {F : Fns} {W : WX} {a b c e tg iter : Expr} {es : List Expr} {fa fb fc fe : SE} {pos p p1 : Pos} {x : Str}
theorem w_v (i : Nat) (hN : X.N[i]? = some x := by rfl) (hv : Vis X.env.scope x := by first | exact Or.inl rfl | exact Or.inr (Or.inl rfl) | exact Or.inr (Or.inr rfl)) (hd : (x == ("__debug__" : Str)) = false := by decide) (hcd : (x == ("__classdict__" : Str)) = false := by decide) : PE X (.Name x pos) (rdE X.K XC F W (eV i)) := c_var hN hv hd hcd
/-- a constant of the module, as the top holds it -/
def HasC (mg : Str → Option Value) (x : Str) (v : V) : Prop := ∃ u, mg x = some u ∧ RelV v u
theorem w_gs {y : Str} (h : HasC X.mg x (.str y)) (hg : Gl X x := by rfl) (hd : (x == ("__debug__" : Str)) = false := by decide) : PE X (.Name x pos) (rdE X.K XC F W (eC (.str y))) :=
  let ⟨_, h1, h2⟩ := h; c_glob hg h1 h2 (fun _ _ => by simp only [Rep]) hd
theorem w_gi {y : Int} (h : HasC X.mg x (.int y)) (hg : Gl X x := by rfl) (hd : (x == ("__debug__" : Str)) = false := by decide) : PE X (.Name x pos) (rdE X.K XC F W (eC (.int y))) :=
  let ⟨_, h1, h2⟩ := h; c_glob hg h1 h2 (fun _ _ => by simp only [Rep]) hd
theorem w_bin {op : Operator} (ha : PE X a (rdE X.K XC F W fa)) (hb : PE X b (rdE X.K XC F W fb)) : PE X (.BinOp a op b pos) (rdE X.K XC F W (eBin op fa fb)) := let ⟨_, h1, h2⟩ := bin_ok X op; c_bin h1 h2 ha hb
theorem w_cmp {op : CmpOp} (hu : X.A.units + 65 < cLine) (ha : PE X a (rdE X.K XC F W fa)) (hb : PE X b (rdE X.K XC F W fb)) (hm : behindInMarks op b = false := by rfl) : PE X (.Compare a [op] [b] pos) (rdE X.K XC F W (eCmp (opCmp op) fa fb)) := let ⟨_, h1, h2⟩ := cmp_ok X hu op; c_cmp h1 h2 ha hb hm
theorem wt_cmp {op : CmpOp} (hu : X.A.units + 65 < cLine) (ha : PE X a (rdE X.K XC F W fa)) (hb : PE X b (rdE X.K XC F W fb)) (hm : behindInMarks op b = false := by rfl) : PT X (.Compare a [op] [b] pos) (rdB X.K XC F W (bCmp (opCmp op) fa fb)) := let ⟨_, h1, h2⟩ := cmp_ok X hu op; ct_cmp h1 h2 ha hb hm
theorem w_chain {op op' : CmpOp} (hu : X.A.units + 65 < cLine) (ha : PE X a (rdE X.K XC F W fa)) (hb : PE X b (rdE X.K XC F W fb)) (hc : PE X c (rdE X.K XC F W fc)) (hm : lastMarks [op, op'] [b, c] = false := by rfl) : PE X (.Compare a [op, op'] [b, c] pos) (rdE X.K XC F W (eChain (opCmp op) (opCmp op') fa fb fc)) :=
  let ⟨_, h1, h2⟩ := cmp_ok X hu op; let ⟨_, h3, h4⟩ := cmp_ok X hu op'; c_chain h1 h2 h3 h4 ha hb hc hm
theorem wt_chain {op op' : CmpOp} (hu : X.A.units + 65 < cLine) (ha : PE X a (rdE X.K XC F W fa)) (hb : PE X b (rdE X.K XC F W fb)) (hc : PE X c (rdE X.K XC F W fc)) (hm : lastMarks [op, op'] [b, c] = false := by rfl) : PT X (.Compare a [op, op'] [b, c] pos) (rdB X.K XC F W (bChain (opCmp op) (opCmp op') fa fb fc)) :=
  let ⟨_, h1, h2⟩ := cmp_ok X hu op; let ⟨_, h3, h4⟩ := cmp_ok X hu op'; ct_chain h1 h2 h3 h4 ha hb hc hm
theorem wt_tru (ha : PE X a (rdE X.K XC F W fa)) (he : ∀ whole, isTrue a X.env whole = (do let v ← whole; standAt a.pos; holding [v] (truthy v)) := by intro _; rfl) : PT X a (rdB X.K XC F W (bTru fa)) := ct_tru ha he
theorem w_ix (hu : X.A.units + 65 < cLine) (ha : PE X a (rdE X.K XC F W fa)) (hb : PE X b (rdE X.K XC F W fb)) (hs : PlainIx b := by intro _ _; rfl) : PE X (.Subscript a b pos) (rdE X.K XC F W (eIx fa fb)) := c_ix (by omega) ha hb hs
theorem w_isi (T : Ty) {t : Str} (hm : X.mg "isinstance" = none) (ht : PE X (.Name t p1) (tC (.ty T.name))) (ha : PE X e (rdE X.K XC F W fa)) (hg : Gl X "isinstance" := by rfl) (he : starEach [e, .Name t p1] X.env = (false, eval e X.env) :: starEach [.Name t p1] X.env := by rfl) :
    PE X (.Call (.Name "isinstance" p) [e, .Name t p1] [] pos) (rdE X.K XC F W (eIsi T fa)) := c_isi hg hm ht ha he
theorem w_fn {id : String} {r : List V → Hp → VK → Prop} {f : List D → Option EV} {fs : SA} (hc : CallR X (.builtin id) r) (ho : OpN X.K f r) (hv : bootBuiltins x = some (.builtin id)) (hm : X.mg x = none) (ha : PA X (e :: es) (rdA X.K XC F W fs)) (hg : Gl X x := by rfl) (hn : x ≠ "__name__" := by decide) (hdb : (x == ("__debug__" : Str)) = false := by decide)
    (he : starEach (e :: es) X.env = (false, eval e X.env) :: starEach es X.env := by rfl) (hpl : (backTo pos (starEach es X.env)).any (·.1) = false := by rfl) : PE X (.Call (.Name x p) (e :: es) [] pos) (rdE X.K XC F W (eCb f fs)) := c_callB hc ho hg hm hv ha hn hdb he hpl
theorem w_ty {T : String} {r : List V → Hp → VK → Prop} {f : List D → Option EV} {fs : SA} (hc : CallR X (.type T) r) (ho : OpN X.K f r) (hv : bootBuiltins x = some (.type T)) (hm : X.mg x = none) (ha : PA X (e :: es) (rdA X.K XC F W fs)) (hg : Gl X x := by rfl) (hn : x ≠ "__name__" := by decide) (hdb : (x == ("__debug__" : Str)) = false := by decide)
    (he : starEach (e :: es) X.env = (false, eval e X.env) :: starEach es X.env := by rfl) (hpl : (backTo pos (starEach es X.env)).any (·.1) = false := by rfl) : PE X (.Call (.Name x p) (e :: es) [] pos) (rdE X.K XC F W (eCb f fs)) := c_callTy hc ho hg hm hv ha hn hdb he hpl
theorem c_and1 (ha : PE X a (rdE X.K XC F W fa)) : PE X (.BoolOp .And [a] pos) (rdE X.K XC F W fa) := ⟨fun pins s σ H Q I h => BoolOp_one (ha.run pins s σ H Q I h)⟩
theorem c_or1 (ha : PE X a (rdE X.K XC F W fa)) : PE X (.BoolOp .Or [a] pos) (rdE X.K XC F W fa) := ⟨fun pins s σ H Q I h => BoolOp_one (ha.run pins s σ H Q I h)⟩
theorem a0 : PA X [] (rdA X.K XC F W (evs [])) := ca_nil
theorem a1 {fs : List SE} (ha : PE X e (rdE X.K XC F W fe)) (hr : PA X es (rdA X.K XC F W (evs fs))) (hs : starEach (e :: es) X.env = (false, eval e X.env) :: starEach es X.env := by rfl) : PA X (e :: es) (rdA X.K XC F W (evs (fe :: fs))) := ca_cons ha hr hs
theorem w_r1 {fa : SE} (hm : X.mg "range" = none) (ha : PE X a (rdE X.K XC F W fa)) (hg : Gl X "range" := by rfl) (hs : starEach [a] X.env = [(false, eval a X.env)] := by rfl) : PI X tg (.Call (.Name "range" p) [a] [] pos) (rdI X.K XC F W (iRange (evs [fa]))) :=
  ci_range1 hg hm (ca_cons ha ca_nil hs) hs fun F ρ μ vs μ' h => evs_len _ _ _ _ _ _ h
theorem w_r2 {fa fb : SE} (hm : X.mg "range" = none) (ha : PE X a (rdE X.K XC F W fa)) (hb : PE X b (rdE X.K XC F W fb)) (hg : Gl X "range" := by rfl) (hs : starEach [a, b] X.env = [(false, eval a X.env), (false, eval b X.env)] := by rfl) (hs2 : starEach [b] X.env = [(false, eval b X.env)] := by rfl) : PI X tg (.Call (.Name "range" p) [a, b] [] pos) (rdI X.K XC F W (iRange (evs [fa, fb]))) :=
  ci_range2 hg hm (ca_cons ha (ca_cons hb ca_nil hs2) (by rw [hs, hs2])) hs hs2 fun F ρ μ vs μ' h => evs_len _ _ _ _ _ _ h
theorem w_r3 {fa fb fc : SE} (hm : X.mg "range" = none) (ha : PE X a (rdE X.K XC F W fa)) (hb : PE X b (rdE X.K XC F W fb)) (hc : PE X c (rdE X.K XC F W fc)) (hg : Gl X "range" := by rfl) (hs : starEach [a, b, c] X.env = (false, eval a X.env) :: starEach [b, c] X.env := by rfl) (hs2 : starEach [b, c] X.env = (false, eval b X.env) :: starEach [c] X.env := by rfl)
    (hs3 : starEach [c] X.env = (false, eval c X.env) :: starEach [] X.env := by rfl) (hpl : (backTo pos (starEach [b, c] X.env)).any (·.1) = false := by rfl) : PI X tg (.Call (.Name "range" p) [a, b, c] [] pos) (rdI X.K XC F W (iRange (evs [fa, fb, fc]))) :=
  ci_range3 hg hm (ca_cons ha (ca_cons hb (ca_cons hc ca_nil hs3) hs2) hs) hs hpl fun F ρ μ vs μ' h => evs_len _ _ _ _ _ _ h
end
theorem lt1 {a b : Nat} (h : a + 65 < b) : a + 1 < b := by omega
theorem lt64 {a b : Nat} (h : a + 65 < b) : a + 64 < b := by omega
theorem hu65 {A : Around} {k : Nat} (hr : Room k A) : A.units + 65 < cLine := by have := hr.un; omega
theorem hu152 {A : Around} {k : Nat} (hr : Room k A) : A.units + 152 < cLine := by have := hr.un; omega
theorem fn_same {K : PySem.W.Frag} {x : Str} {st : Stmt} {f : Addr} {fd fd' : FuncData} (F : Fun K x x st f fd) (F' : Fun K x x st f fd') : fd = fd' := by
  obtain ⟨oc, od, _, _, _, _, _, _, osl, _, h, _⟩ := F.ex
  obtain ⟨oc', od', _, _, _, _, _, _, osl', _, h', _⟩ := F'.ex
  rw [h] at h'
  cases h'
  rfl
/-- the promise of the law itself -/
theorem law_fn {P : Program} {w : World} {K : PySem.W.Frag} {mg : Str → Option Value} {base : Heap} {XC : Nat → Addr} {F : Fns} {n i : Nat} {x : Str} {ps : List Str} {st : Stmt} {f : Addr} {fd : FuncData} (G : FnR P w K mg base XC F n i x ps st) (FF : Fun K x x st f fd) (hm : mg x = some (.ref f)) :
    FnG P w K mg base CX0 n f fd ps (spF K XC F i ps.length) := by
  obtain ⟨f', fd', F', m', _, g⟩ := G.ex
  rw [hm] at m'
  cases m'
  rw [fn_same FF F']
  exact g
theorem law_sp {K : PySem.W.Frag} {XC : Nat → Addr} {F : Fns} {i : Nat} {H : Hp} {a : Addr} {ns : List Int} (hS : SqL K H a (ns.map V.int)) (h : ∃ μ, F i [.dat (.scr ns)] [] = .ok (.dat (.bl true)) μ) : spF K XC F i 1 [.ref a] H (fun v _ => v = .bl true) fun _ _ _ => False := by
  obtain ⟨μ, h⟩ := h
  have S : Sim K (fun _ => False) [] [] H := ⟨rfl, List.nodup_nil, fun a h => h.elim, fun k c h => by simp at h⟩
  refine ⟨rfl, fun _ => False, [], [], [.dat (.scr ns)], S, ⟨.ref a, [], rfl, ?_, rfl⟩, ?_⟩
  · refine (?_ : ∃ a', V.ref a = .ref a' ∧ LstN K (Liv (fun _ => False) [] []) H a' (ns.map V.int))
    refine ⟨a, rfl, ?_⟩
    rcases hS with h | h
    · refine .inl ⟨h, fun z => ?_⟩
      rcases z with ⟨k, c, h, _⟩ | z
      · simp at h
      · exact z
    · exact .inr h
  · rw [h]
    intro b H' _ r
    exact r.1
end VM
/-! What the small programs compute, as rewriting rules. -/
namespace VM
section
variable {F : Fns} {ρ : Env} {μ : Sto} {f g h : SE} {t u : SB} {fs : List SE} {i j k l : Nat} {a b c : SS} {d : D} {e1 e2 : EV}
@[simp] theorem Res.bind_ok {α β : Type} {a : α} {f : α → Sto → Res β} : (Res.ok a μ).bind f = f a μ := rfl
@[simp] theorem Res.bind_bad {α β : Type} {f : α → Sto → Res β} : (Res.bad : Res α).bind f = .bad := rfl
@[simp] theorem Res.nox_ok {α : Type} {a : α} : (Res.ok a μ).nox = .ok a μ := rfl
@[simp] theorem see_dat : (EV.dat d).see μ = some d := rfl
@[simp] theorem see_new {c : CV} : (EV.new c).see μ = some c.toD := rfl
@[simp] theorem toD_lst {ds : List D} : (CV.lst ds).toD = .lst ds := rfl
@[simp] theorem toD_dic {ks : List L2.Key} {ds : List D} : (CV.dic ks ds).toD = .dic ks ds := rfl
@[simp] theorem frz_dat : (EV.dat d).frz μ = some (d, μ) := rfl
@[simp] theorem frz_new {c : CV} : (EV.new c).frz μ = some (c.toD, μ) := rfl
@[simp] theorem bnd_dat : (EV.dat d).bnd μ = (.dat d, μ) := rfl
@[simp] theorem bnd_cel : (EV.cel k).bnd μ = (.cel k, μ) := rfl
@[simp] theorem bnd_new {c : CV} : (EV.new c).bnd μ = (.cel μ.length, μ ++ [⟨true, c⟩]) := rfl
@[simp] theorem ev_dat : (SV.dat d).ev = .dat d := rfl
@[simp] theorem ev_cel : (SV.cel k).ev = .cel k := rfl
@[simp] theorem arg_dat : (EV.dat d).arg = .dat d := rfl
@[simp] theorem arg_cel : (EV.cel k).arg = .cel k := rfl
@[simp] theorem arg_new {c : CV} : (EV.new c).arg = .dat c.toD := rfl
theorem see_cel {c : Cell} (h : μ[k]? = some c) : (EV.cel k).see μ = some c.val.toD := by
  show (match μ[k]? with | some c => some c.val.toD | none => none) = _
  rw [h]
@[simp] theorem frzs_nil : frzs [] μ = some ([], μ) := rfl
@[simp] theorem frzs_cons {es : List EV} : frzs (e1 :: es) μ = match e1.frz μ with
  | some (d, μ1) => match frzs es μ1 with
    | some (ds, μ2) => some (d :: ds, μ2)
    | none => none
  | none => none := rfl
@[simp] theorem x_C : eC d F ρ μ = .ok (.dat d) μ := rfl
@[simp] theorem x_V : eV i F ρ μ = match ρ[i]? with
  | some (some s) => .ok s.ev μ
  | _ => .bad := rfl
@[simp] theorem x_evs0 : evs [] F ρ μ = .ok [] μ := rfl
@[simp] theorem x_evs : evs (f :: fs) F ρ μ = (f F ρ μ).bind fun v μ1 => (evs fs F ρ μ1).bind fun vs μ2 => .ok (v :: vs) μ2 := rfl
@[simp] theorem x_tup {fa : SA} : eTup fa F ρ μ = (fa F ρ μ).bind fun vs μ1 => match frzs vs μ1 with
  | some (ds, μ2) => if ds.length ≤ LIM then .ok (.dat (.tup ds)) μ2 else .bad
  | none => .bad := rfl
@[simp] theorem x_lst {fa : SA} : eLst fa F ρ μ = (fa F ρ μ).bind fun vs μ1 => match frzs vs μ1 with
  | some (ds, μ2) => if ds.length ≤ LIM then .ok (.new (.lst ds)) μ2 else .bad
  | none => .bad := rfl
@[simp] theorem x_bin {op : PySem.Operator} : eBin op f g F ρ μ = (f F ρ μ).bind fun a μ1 => (g F ρ μ1).bind fun b μ2 => lift2 (opBin op) a b μ2 := rfl
@[simp] theorem x_cmp {p : D → D → Option Bool} : eCmp p f g F ρ μ = (f F ρ μ).bind fun a μ1 => (g F ρ μ1).bind fun b μ2 => lift2 (fun a b => (p a b).map fun k => .dat (.bl k)) a b μ2 := rfl
@[simp] theorem xt_cmp {p : D → D → Option Bool} : bCmp p f g F ρ μ = (f F ρ μ).bind fun a μ1 => (g F ρ μ1).bind fun b μ2 => lift2B p a b μ2 := rfl
@[simp] theorem x_ix : eIx f g F ρ μ = (f F ρ μ).bind fun a μ1 => (g F ρ μ1).bind fun b μ2 => lift2 opIx a b μ2 := rfl
@[simp] theorem x_lift2 {p : D → D → Option EV} : lift2 p e1 e2 μ = match e1.see μ, e2.see μ with
  | some x, some y => match p x y with
    | some e => .ok e μ
    | none => .bad
  | _, _ => .bad := rfl
@[simp] theorem x_lift2B {p : D → D → Option Bool} : lift2B p e1 e2 μ = match e1.see μ, e2.see μ with
  | some x, some y => match p x y with
    | some e => .ok e μ
    | none => .bad
  | _, _ => .bad := rfl
@[simp] theorem x_cb {p : List D → Option EV} {fa : SA} : eCb p fa F ρ μ = (fa F ρ μ).bind fun vs μ1 => liftN p vs μ1 := rfl
@[simp] theorem x_liftN {p : List D → Option EV} {vs : List EV} : liftN p vs μ = match sees vs μ with
  | some ds => match p ds with
    | some e => .ok e μ
    | none => .bad
  | none => .bad := rfl
@[simp] theorem sees_nil : sees [] μ = some [] := rfl
@[simp] theorem sees_cons {es : List EV} : sees (e1 :: es) μ = match e1.see μ, sees es μ with
  | some d, some ds => some (d :: ds)
  | _, _ => none := rfl
@[simp] theorem x_isi {T : Ty} : eIsi T f F ρ μ = (f F ρ μ).bind fun v μ1 => match v.see μ1 with
  | some d => .ok (.dat (.bl (isi T d))) μ1
  | none => .bad := rfl
@[simp] theorem x_call {fa : SA} : eCall i fa F ρ μ = (fa F ρ μ).bind fun vs μ1 => F i (vs.map EV.arg) μ1 := rfl
@[simp] theorem x_callK {fa fk : SA} {perm : List Nat} : eCallK i fa fk perm F ρ μ = (fa F ρ μ).bind fun vs μ1 => (fk F ρ μ1).bind fun zs μ2 => F i ((perm.filterMap fun i => (vs ++ zs)[i]?).map EV.arg) μ2 := rfl
@[simp] theorem xt_tru : bTru f F ρ μ = (f F ρ μ).bind truR := rfl
@[simp] theorem x_truR : truR e1 μ = match e1.see μ with
  | some d => match tru d with
    | some k => .ok k μ
    | none => .bad
  | none => .bad := rfl
@[simp] theorem xt_not : bNot t F ρ μ = (t F ρ μ).bind fun k μ1 => .ok (!k) μ1 := rfl
@[simp] theorem xt_and : bAnd t u F ρ μ = (t F ρ μ).bind fun k μ1 => match k with
  | true => u F ρ μ1
  | false => .ok false μ1 := rfl
@[simp] theorem xt_or : bOr t u F ρ μ = (t F ρ μ).bind fun k μ1 => match k with
  | true => .ok true μ1
  | false => u F ρ μ1 := rfl
@[simp] theorem x_and : eAnd f g F ρ μ = (f F ρ μ).bind fun v μ1 => (truR v μ1).bind fun k μ2 => match k with
  | true => g F ρ μ2
  | false => .ok v μ2 := rfl
@[simp] theorem x_or : eOr f g F ρ μ = (f F ρ μ).bind fun v μ1 => (truR v μ1).bind fun k μ2 => match k with
  | true => .ok v μ2
  | false => g F ρ μ2 := rfl
@[simp] theorem x_not : eNot f F ρ μ = (f F ρ μ).bind fun v μ1 => (truR v μ1).bind fun k μ2 => .ok (.dat (.bl (!k))) μ2 := rfl
@[simp] theorem x_if : eIf t f g F ρ μ = (t F ρ μ).bind fun k μ1 => match k with
  | true => f F ρ μ1
  | false => g F ρ μ1 := rfl
@[simp] theorem x_yes : bYes F ρ μ = .ok true μ := rfl
@[simp] theorem xs_seq : sSeq a b F ρ μ = match a F ρ μ with
  | .ok (.nx ρ1) μ1 => b F ρ1 μ1
  | r => r := rfl
@[simp] theorem xs_pass : sPass F ρ μ = .ok (.nx ρ) μ := rfl
@[simp] theorem xs_drop : sDrop f F ρ μ = (f F ρ μ).bind fun _ μ1 => .ok (.nx ρ) μ1 := rfl
@[simp] theorem xs_ret : sRet f F ρ μ = (f F ρ μ).bind fun v μ1 => .ok (.rt v) μ1 := rfl
@[simp] theorem xs_if : sIf t a b F ρ μ = (t F ρ μ).bind fun k μ1 => match k with
  | true => a F ρ μ1
  | false => b F ρ μ1 := rfl
@[simp] theorem xs_set : sSet i f F ρ μ = (f F ρ μ).bind fun v μ1 => .ok (.nx (ρ.set i (some (v.bnd μ1).1))) (v.bnd μ1).2 := rfl
@[simp] theorem xs_par : sPar i j f g F ρ μ = (f F ρ μ).bind fun v μ1 => (g F ρ (v.bnd μ1).2).bind fun w μ2 => .ok (.nx ((ρ.set i (some (v.bnd μ1).1)).set j (some (w.bnd μ2).1))) (w.bnd μ2).2 := rfl
@[simp] theorem xs_asg {p : SG} : sAsg f p F ρ μ = (f F ρ μ).bind fun v μ1 => match v.frz μ1 with
  | some (d, μ2) => (p d F ρ μ2).bind fun ρ1 μ3 => .ok (.nx ρ1) μ3
  | none => .bad := rfl
@[simp] theorem xg_nm : gNm i d F ρ μ = .ok (ρ.set i (some (.dat d))) μ := rfl
@[simp] theorem xg_tp {gs : List SG} {ds : List D} : gTp gs (.tup ds) F ρ μ = if ds.length = gs.length then sgs gs ds F ρ μ else .bad := rfl
@[simp] theorem xg_nil : sgs [] [] F ρ μ = .ok ρ μ := rfl
@[simp] theorem xg_cons {p : SG} {gs : List SG} {ds : List D} : sgs (p :: gs) (d :: ds) F ρ μ = (p d F ρ μ).bind fun ρ1 μ1 => sgs gs ds F ρ1 μ1 := rfl
@[simp] theorem xs_while : sWhile t a F ρ μ = whL (t F) (a F) LIM ρ μ := rfl
@[simp] theorem xs_for {it : SI} {p : SG} : sFor it p a F ρ μ = (it F ρ μ).bind fun s μ1 => forL F s p a (s.len μ1 + 1) 0 ρ μ1 := rfl
@[simp] theorem xi_of : iOf f F ρ μ = (f F ρ μ).bind fun v μ1 => match srcOf v μ1 with
  | some s => .ok s μ1
  | none => .bad := rfl
@[simp] theorem xi_enm : iEnm f F ρ μ = (f F ρ μ).bind fun v μ1 => match isTx v, srcOf v μ1 with
  | false, some s => .ok s.enum μ1
  | _, _ => .bad := rfl
@[simp] theorem xi_rng {fa : SA} : iRange fa F ρ μ = (fa F ρ μ).bind fun vs μ1 => match rangeOf vs with
  | some s => .ok s μ1
  | none => .bad := rfl
@[simp] theorem x_lc {it : SI} {tg : Tgt} {own : List Nat} : eLc it tg t f own F ρ μ = (it F ρ μ).bind fun s μ1 => (lcLoop s (lcStep F tg t f (wipeE ρ own)) (s.len μ1 + 1) 0 μ1).bind fun ds μ2 => if ds.length ≤ LIM then .ok (.new (.lst ds)) μ2 else .bad := rfl
@[simp] theorem x_rev : eRev f F ρ μ = (f F ρ μ).bind fun v μ1 => match v.see μ1 with
  | some (.lst ds) => .ok (.new (.lst ds.reverse)) μ1
  | some (.tup ds) => .ok (.dat (.tup ds.reverse)) μ1
  | _ => .bad := rfl
@[simp] theorem x_sl {l h : SOp} : eSl f l h F ρ μ = (f F ρ μ).bind fun a μ1 => (l F ρ μ1).bind fun lo μ2 => (h F ρ μ2).bind fun hi μ3 => match a.see μ3 with
  | some d => match opSl d lo hi with
    | some e => .ok e μ3
    | none => .bad
  | none => .bad := rfl
@[simp] theorem x_dict0 : eDict0 F ρ μ = .ok (.new (.dic [] [])) μ := rfl
@[simp] theorem src_vals {ds : List D} : (Src.vals ds).at μ = some ds := rfl
@[simp] theorem src_len {ds : List D} : (Src.vals ds).len μ = ds.length := rfl
end

/-! ### stores -/
section
variable {μ r : Sto} {c d c' : Cell}
@[simp] theorem get_a0 : (μ ++ c :: r)[μ.length]? = some c := by rw [List.getElem?_append_right (Nat.le_refl _), Nat.sub_self]; rfl
@[simp] theorem get_a1 : (μ ++ c :: d :: r)[μ.length + 1]? = some d := by
  rw [List.getElem?_append_right (Nat.le_succ _), show μ.length + 1 - μ.length = 1 by omega]; rfl
@[simp] theorem set_a0 : (μ ++ c :: r).set μ.length c' = μ ++ c' :: r := by
  rw [List.set_append_right _ _ (Nat.le_refl _), Nat.sub_self]; rfl
@[simp] theorem set_a1 : (μ ++ c :: d :: r).set (μ.length + 1) c' = μ ++ c :: c' :: r := by
  rw [List.set_append_right _ _ (Nat.le_succ _), show μ.length + 1 - μ.length = 1 by omega]; rfl
@[simp] theorem take_a : (μ ++ r).take μ.length = μ := by simp
end

/-! ### loops -/
theorem lc_pure {s : List D} {step : D → Sto → Res (Option D)} {g : D → Option D} {μ : Sto} (h : ∀ d ∈ s, step d μ = .ok (g d) μ) : ∀ (n i : Nat), i ≤ s.length → s.length < i + n → s.length ≤ LIM → lcLoop (.vals s) step n i μ = .ok ((s.drop i).filterMap g) μ
  | 0, i, hi, hn, hl => by omega
  | n + 1, i, hi, hn, hl => by
    unfold lcLoop
    simp only [src_vals]
    cases e : s[i]? with
    | none =>
      have hi : s.length ≤ i := List.getElem?_eq_none_iff.mp e
      rw [List.drop_eq_nil_of_le hi]; rfl
    | some d =>
      have hi : i < s.length := (List.getElem?_eq_some_iff.mp e).1
      have hd : d ∈ s := List.mem_of_getElem? e
      simp only
      rw [if_pos (by omega), h d hd, Res.bind_ok, lc_pure h n (i + 1) (by omega) (by omega) hl, Res.bind_ok]
      have e2 : s.drop i = d :: s.drop (i + 1) := by
        rw [List.drop_eq_getElem_cons hi]
        congr 1
        exact (List.getElem?_eq_some_iff.mp e).2
      rw [e2, List.filterMap_cons]
      cases g d <;> rfl
end VM
namespace VM
section
variable {F : Fns} {ρ : Env} {μ : Sto} {f g : SE} {t : SB} {o : SE} {fa : SA} {act : Act}
@[simp] theorem x_cm : eCM act o fa F ρ μ = (o F ρ μ).bind fun v μ1 => match v with
  | .cel k => match μ1[k]? with
    | some c0 => match c0.val with
      | .lst _ => (fa F ρ μ1).bind fun vs μ2 => match frzs vs μ2 with
        | some (args, μ3) => match μ3[k]? with
          | some c => match c.live, c.val with
            | true, .lst ds => match act ds args with
              | some (r, ds') => .ok (.dat r) (μ3.set k ⟨true, .lst ds'⟩)
              | none => .bad
            | _, _ => .bad
          | none => .bad
        | none => .bad
      | _ => .bad
    | none => .bad
  | _ => .bad := rfl
@[simp] theorem aPop_c {l : List D} {d : D} : aPop (l ++ [d]) [] = some (d, l) := by
  unfold aPop
  simp
theorem aAppend_c {l : List D} {d : D} (h : l.length < LIM) : aAppend l [d] = some (.non, l ++ [d]) := if_pos h
theorem aExtend_c {l e : List D} (h : l.length + e.length ≤ LIM) : aExtend l [.lst e] = some (.non, l ++ e) := if_pos h
@[simp] theorem x_step {tg : Tgt} {d : D} : lcStep F tg t f ρ d μ = match asg tg d ρ with
  | none => .bad
  | some ρ => (t F ρ μ).nox.bind fun b μ1 => match b with
    | true => (f F ρ μ1).nox.bind fun v μ2 => match v.frz μ2 with
      | some (x, μ3) => .ok (some x) μ3
      | none => .bad
    | false => .ok none μ1 := rfl
end
/-- a list of things still to be looked at, from the end on -/
def stk {α : Type} (enc : α → D) (μ : Sto) (Fd : List D) (L : List α) : Sto := μ ++ [⟨true, .lst Fd⟩, ⟨true, .lst (L.map enc).reverse⟩]
theorem stack_loop {α : Type} (enc : α → D) (out : α → List D) (kids : α → List α) (all : α → List D) (size : α → Nat) (good : α → Prop) (okρ : Env → Prop) (B : Nat) {c : Env → Sto → Res Bool} {b : Env → Sto → Res SO} {μ : Sto}
    (hall : ∀ x, good x → all x = out x ++ (kids x).flatMap all) (hsz : ∀ x, good x → 1 + ((kids x).map size).sum ≤ size x) (hout : ∀ x, good x → (out x).length + ((kids x).map size).sum ≤ size x) (hkid : ∀ x, good x → ∀ y ∈ kids x, good y)
    (hc : ∀ ρ Fd L, okρ ρ → (∀ x ∈ L, good x) → c ρ (stk enc μ Fd L) = .ok (!L.isEmpty) (stk enc μ Fd L))
    (hb : ∀ ρ Fd x L, okρ ρ → good x → (∀ y ∈ L, good y) → Fd.length + size x + (L.map size).sum ≤ B → ∃ ρ', okρ ρ' ∧ b ρ (stk enc μ Fd (x :: L)) = .ok (.nx ρ') (stk enc μ (Fd ++ out x) (kids x ++ L))) :
    ∀ (m fuel : Nat) (ρ : Env) (Fd : List D) (L : List α), okρ ρ → (∀ x ∈ L, good x) → (L.map size).sum ≤ m → m < fuel → Fd.length + (L.map size).sum ≤ B → ∃ ρ', okρ ρ' ∧ whL c b fuel ρ (stk enc μ Fd L) = .ok (.nx ρ') (stk enc μ (Fd ++ L.flatMap all) [])
  | m, 0, ρ, Fd, L, _, _, _, hf, _ => by omega
  | m, fuel + 1, ρ, Fd, [], ho, hg, hs, hf, hB => by
    refine ⟨ρ, ho, ?_⟩
    unfold whL
    rw [hc ρ Fd [] ho hg]
    simp
  | m, fuel + 1, ρ, Fd, x :: L, ho, hg, hs, hf, hB => by
    have gx := hg x List.mem_cons_self
    have gL : ∀ y ∈ L, good y := fun y hy => hg y (List.mem_cons_of_mem _ hy)
    rw [List.map_cons, List.sum_cons] at hs hB
    have h1 := hsz x gx
    have h2 := hout x gx
    obtain ⟨ρ', ho', e⟩ := hb ρ Fd x L ho gx gL (by omega)
    have hm : ((kids x ++ L).map size).sum = ((kids x).map size).sum + (L.map size).sum := by rw [List.map_append, List.sum_append]
    obtain ⟨ρ2, ho2, e2⟩ := stack_loop enc out kids all size good okρ B hall hsz hout hkid hc hb (m - 1) fuel ρ' (Fd ++ out x) (kids x ++ L) ho' (fun y hy => (List.mem_append.mp hy).elim (hkid x gx y) (gL y)) (by rw [hm]; omega) (by omega) (by rw [hm, List.length_append]; omega)
    refine ⟨ρ2, ho2, ?_⟩
    unfold whL
    rw [hc ρ Fd (x :: L) ho hg]
    simp only [List.isEmpty_cons, Bool.not_false, Res.bind_ok, e, e2]
    rw [List.flatMap_append, List.flatMap_cons, hall x gx, List.append_assoc, List.append_assoc]
end VM
namespace VM
@[simp] theorem lm0 : (0 ≤ LIM) = True := eq_true (by decide)
@[simp] theorem lm1 : (1 ≤ LIM) = True := eq_true (by decide)
@[simp] theorem lm2 : (2 ≤ LIM) = True := eq_true (by decide)
@[simp] theorem lm3 : (3 ≤ LIM) = True := eq_true (by decide)
@[simp] theorem lm4 : (4 ≤ LIM) = True := eq_true (by decide)
@[simp] theorem lm5 : (5 ≤ LIM) = True := eq_true (by decide)
@[simp] theorem lm9 : (9 ≤ LIM) = True := eq_true (by decide)
theorem ix0 {a : D} {l : List D} : opIx (.tup (a :: l)) (.int 0) = some (.dat a) := by
  unfold opIx L2.atI L2.ixN
  simp
theorem ix1 {a b : D} {l : List D} : opIx (.tup (a :: b :: l)) (.int 1) = some (.dat b) := by
  unfold opIx L2.atI L2.ixN
  simp only [List.length_cons]
  rw [if_pos (by omega), if_pos (by omega)]
  rfl
theorem addI {i j : Int} : opBin .Add (.int i) (.int j) = some (.dat (.int (i + j))) := rfl
end VM
namespace VM
@[simp] theorem tru_bl {b : Bool} : tru (.bl b) = some b := rfl
@[simp] theorem src_tup {l : List D} {μ : Sto} : srcOf (.dat (.tup l)) μ = some (.vals l) := rfl
@[simp] theorem src_lst {l : List D} {μ : Sto} : srcOf (.dat (.lst l)) μ = some (.vals l) := rfl
@[simp] theorem src_newl {l : List D} {μ : Sto} : srcOf (.new (.lst l)) μ = some (.vals l) := rfl
theorem asg_nm {i : Nat} {d : D} {ρ : Env} (h : i < ρ.length) : asg (.nm i) d ρ = some (ρ.set i (some (.dat d))) := if_pos h
/-- a comprehension over told items, each of which gives one -/
theorem lc_map {s : List D} {step : D → Sto → Res (Option D)} {g : D → D} {μ : Sto} (h : ∀ d ∈ s, step d μ = .ok (some (g d)) μ) (hl : s.length ≤ LIM) : lcLoop (.vals s) step (s.length + 1) 0 μ = .ok (s.map g) μ := by
  rw [lc_pure (g := fun d => some (g d)) h (s.length + 1) 0 (Nat.zero_le _) (by omega) hl, List.drop_zero]
  congr 1
  induction s with
  | nil => rfl
  | cons a s ih => simp [List.filterMap_cons]
end VM
set_option maxHeartbeats 0
namespace Law
open PySem L2 VM PyProof.Rows
def top (i : Nat) : Stmt := PySem.Challenge.pw_nearestpattern_k12_whole_parts_of_terms.main.body.getD i (.Pass ⟨0, 0, 0, 0⟩)
abbrev S_is_integer : Stmt := top 5
abbrev S_is_count : Stmt := top 6
abbrev S_is_name : Stmt := top 16
abbrev S_is_variable : Stmt := top 17
abbrev S_is_head : Stmt := top 18
abbrev S_is_rest : Stmt := top 19
abbrev S_is_applied : Stmt := top 20
abbrev S_standings : Stmt := top 21
abbrev S_have_one_sort : Stmt := top 22
abbrev S_pieces : Stmt := top 23
abbrev S_variables_of : Stmt := top 24
abbrev S_nodes_of : Stmt := top 25
abbrev S_depth_of : Stmt := top 26
abbrev S_paths_of : Stmt := top 27
abbrev S_part_of : Stmt := top 28
abbrev S_is_path_of : Stmt := top 29
abbrev S_is_term : Stmt := top 30
abbrev S_want_term : Stmt := top 31
abbrev S_variables : Stmt := top 32
abbrev S_nodes : Stmt := top 33
abbrev S_depth : Stmt := top 34
abbrev S_paths : Stmt := top 35
abbrev S_part_at : Stmt := top 36
abbrev S__law_pot : Stmt := top 38
abbrev S__law_draw : Stmt := top 39
abbrev S__law_pick : Stmt := top 40
abbrev S__law_term : Stmt := top 41
abbrev S__law_great : Stmt := top 42
abbrev S__law_is_rest : Stmt := top 43
abbrev S__law_rows : Stmt := top 44
abbrev S__law_depth : Stmt := top 45
abbrev S__law_variables : Stmt := top 46
abbrev S__law_some : Stmt := top 47
abbrev S__law_within_right : Stmt := top 48
abbrev S_law : Stmt := top 49
abbrev N_is_integer : List Str := ["value"]
abbrev N_is_count : List Str := ["value"]
abbrev N_is_name : List Str := ["value", "sign"]
abbrev N_is_variable : List Str := ["value", "sign"]
abbrev N_is_head : List Str := ["value"]
abbrev N_is_rest : List Str := ["value"]
abbrev N_is_applied : List Str := ["value"]
abbrev N_standings : List Str := ["value", "found", "waiting", "here", "is_last", "last", "at"]
abbrev N_have_one_sort : List Str := ["found", "sorts", "sort", "variable"]
abbrev N_pieces : List Str := ["term", "found", "waiting", "here", "level", "arg"]
abbrev N_variables_of : List Str := ["term", "found", "known", "sort", "variable"]
abbrev N_nodes_of : List Str := ["term"]
abbrev N_depth_of : List Str := ["term", "piece", "level"]
abbrev N_paths_of : List Str := ["term", "found", "waiting", "path", "here", "at", "arg"]
abbrev N_part_of : List Str := ["term", "path", "here", "at"]
abbrev N_is_path_of : List Str := ["term", "value", "here", "at"]
abbrev N_is_term : List Str := ["value", "found"]
abbrev N_want_term : List Str := ["value"]
abbrev N_variables : List Str := ["term"]
abbrev N_nodes : List Str := ["term"]
abbrev N_depth : List Str := ["term"]
abbrev N_paths : List Str := ["term"]
abbrev N_part_at : List Str := ["term", "path"]
abbrev N__law_pot : List Str := ["script", "k", "cell"]
abbrev N__law_draw : List Str := ["pot", "many", "digit"]
abbrev N__law_pick : List Str := ["pot", "some"]
abbrev N__law_term : List Str := ["pot", "deep", "way", "args", "turn"]
abbrev N__law_great : List Str := ["pot", "term", "turn", "args", "late"]
abbrev N__law_is_rest : List Str := ["value"]
abbrev N__law_rows : List Str := ["term", "found", "at", "path", "one", "later", "place", "arg"]
abbrev N__law_depth : List Str := ["term", "arg"]
abbrev N__law_variables : List Str := ["rows", "found", "path", "one", "row"]
abbrev N__law_some : List Str := ["pot", "rows", "many", "turn"]
abbrev N__law_within_right : List Str := ["pot", "term", "path", "part", "late"]
abbrev N_law : List Str := ["script", "pot", "term", "rows", "due", "told", "names", "parts", "path", "one"]
def P_is_integer : SS := sRet (eAnd (eIsi .int (eV 0)) (eNot (eIsi .bool (eV 0))))
def P_is_count : SS := sRet (eAnd (eCall 0 (evs [eV 0])) (eCmp (opCmp .GtE) (eV 0) (eC (.int 0))))
def P_is_name : SS := sSeq (sIf (bOr (bNot (bTru (eIsi .str (eV 0)))) (bOr (bNot (bChain (opCmp .LtE) (opCmp .LtE) (eC (.int 1)) (eCb bLen (evs [eV 0])) (eC (.int 8)))) (bCmp (opCmp .NotIn) (eIx (eV 0) (eC (.int 0))) (eC (.str "abcdefghijklmnopqrstuvwxyz"))))) (sRet (eC (.bl false))) (sPass)) (sRet (eCb bAll (evs [eLc (iOf (eV 0)) (.nm 1) (bYes) (eOr (eCmp (opCmp .In) (eV 1) (eC (.str "abcdefghijklmnopqrstuvwxyz"))) (eCmp (opCmp .In) (eV 1) (eC (.str "0123456789")))) [1]])))
def P_is_variable : SS := sSeq (sIf (bOr (bNot (bTru (eIsi .str (eV 0)))) (bOr (bNot (bChain (opCmp .LtE) (opCmp .LtE) (eC (.int 1)) (eCb bLen (evs [eV 0])) (eBin .Add (eC (.int 2)) (eC (.int 1))))) (bCmp (opCmp .NotIn) (eIx (eV 0) (eC (.int 0))) (eC (.str "ABCDEFGHIJKLMNOPQRSTUVWXYZ"))))) (sRet (eC (.bl false))) (sPass)) (sRet (eCb bAll (evs [eLc (iOf (eSl (eV 0) (oSome (eC (.int 1))) (oNone))) (.nm 1) (bYes) (eCmp (opCmp .In) (eV 1) (eC (.str "0123456789"))) [1]])))
def P_is_head : SS := sRet (eOr (eCall 2 (evs [eV 0])) (eCall 3 (evs [eV 0])))
def P_is_rest : SS := sRet (eAnd (eIsi .str (eV 0)) (eAnd (eCmp (opCmp .Eq) (eSl (eV 0) (oNone) (oSome (eC (.int 1)))) (eC (.str "*"))) (eCall 3 (evs [eSl (eV 0) (oSome (eC (.int 1))) (oNone)]))))
def P_is_applied : SS := sRet (eAnd (eIsi .tuple (eV 0)) (eCmp (opCmp .Eq) (eCb bLen (evs [eV 0])) (eC (.int 2))))
def P_standings : SS := sSeq (sPar 1 2 (eLst (evs [])) (eLst (evs [eTup (evs [eV 0, eC (.bl false)])]))) (sSeq (sWhile (bCmp (opCmp .NotEq) (eV 2) (eLst (evs []))) (sSeq (sAsg (eCM aPop (eV 2) (evs [])) (gTp [gNm 3, gNm 4])) (sIf (bTru (eCall 3 (evs [eV 3]))) (sDrop (eCM aAppend (eV 1) (evs [eTup (evs [eC (.str "term"), eV 3])]))) (sIf (bAnd (bTru (eV 4)) (bTru (eCall 5 (evs [eV 3])))) (sDrop (eCM aAppend (eV 1) (evs [eTup (evs [eC (.str "rest"), eSl (eV 3) (oSome (eC (.int 1))) (oNone)])]))) (sIf (bAnd (bTru (eCall 6 (evs [eV 3]))) (bAnd (bTru (eCall 4 (evs [eIx (eV 3) (eC (.int 0))]))) (bTru (eIsi .tuple (eIx (eV 3) (eC (.int 1))))))) (sSeq (sIf (bTru (eCall 3 (evs [eIx (eV 3) (eC (.int 0))]))) (sDrop (eCM aAppend (eV 1) (evs [eTup (evs [eC (.str "head"), eIx (eV 3) (eC (.int 0))])]))) (sPass)) (sSeq (sSet 5 (eBin .Sub (eCb bLen (evs [eIx (eV 3) (eC (.int 1))])) (eC (.int 1)))) (sDrop (eCM aExtend (eV 2) (evs [eLc (iRange (evs [eV 5, eNeg (eC (.int 1)), eNeg (eC (.int 1))])) (.nm 6) (bYes) (eTup (evs [eIx (eIx (eV 3) (eC (.int 1))) (eV 6), eCmp (opCmp .Eq) (eV 6) (eV 5)])) [6]]))))) (sIf (bNot (bTru (eCall 0 (evs [eV 3])))) (sRet (eC .non)) (sPass))))))) (sRet (eV 1)))
def P_have_one_sort : SS := sSeq (sSet 1 (eDict0)) (sRet (eCb bAll (evs [eLc (iOf (eV 0)) (.tup [.nm 2, .nm 3]) (bYes) (eCmp (opCmp .Eq) (eSetd (eV 1) (eV 3) (eV 2)) (eV 2)) [2, 3]])))
def P_pieces : SS := sSeq (sPar 1 2 (eLst (evs [])) (eLst (evs [eTup (evs [eV 0, eC (.int 1)])]))) (sSeq (sWhile (bCmp (opCmp .NotEq) (eV 2) (eLst (evs []))) (sSeq (sAsg (eCM aPop (eV 2) (evs [])) (gTp [gNm 3, gNm 4])) (sSeq (sDrop (eCM aAppend (eV 1) (evs [eTup (evs [eV 3, eV 4])]))) (sIf (bTru (eCall 6 (evs [eV 3]))) (sDrop (eCM aExtend (eV 2) (evs [eLc (iOf (eRev (eIx (eV 3) (eC (.int 1))))) (.nm 5) (bYes) (eTup (evs [eV 5, eBin .Add (eV 4) (eC (.int 1))])) [5]]))) (sPass))))) (sRet (eV 1)))
def P_variables_of : SS := sSeq (sPar 1 2 (eLst (evs [])) (eDict0)) (sSeq (sFor (iOf (eCall 7 (evs [eV 0]))) (gTp [gNm 3, gNm 4]) (sIf (bCmp (opCmp .NotIn) (eV 4) (eV 2)) (sSeq (sDrop (eCM aAppend (eV 1) (evs [eTup (evs [eV 3, eV 4])]))) (sAsg (eC (.bl true)) (gSb (eV 2) (eV 4)))) (sPass))) (sRet (eV 1)))
def P_nodes_of : SS := sRet (eCb bLen (evs [eCall 9 (evs [eV 0])]))
def P_depth_of : SS := sRet (eCb bMax (evs [eLc (iOf (eCall 9 (evs [eV 0]))) (.tup [.nm 1, .nm 2]) (bYes) (eV 2) [1, 2]]))
def P_paths_of : SS := sSeq (sPar 1 2 (eLst (evs [])) (eLst (evs [eTup (evs [eTup (evs []), eV 0])]))) (sSeq (sWhile (bCmp (opCmp .NotEq) (eV 2) (eLst (evs []))) (sSeq (sAsg (eCM aPop (eV 2) (evs [])) (gTp [gNm 3, gNm 4])) (sSeq (sDrop (eCM aAppend (eV 1) (evs [eV 3]))) (sIf (bTru (eCall 6 (evs [eV 4]))) (sDrop (eCM aExtend (eV 2) (evs [eLc (iEnm (eIx (eV 4) (eC (.int 1)))) (.tup [.nm 5, .nm 6]) (bNot (bTru (eCall 5 (evs [eV 6])))) (eTup (evs [eBin .Add (eV 3) (eTup (evs [eV 5])), eV 6])) [5, 6]]))) (sPass))))) (sRet (eCb fSorted (evs [eV 1]))))
def P_part_of : SS := sSeq (sSet 2 (eV 0)) (sSeq (sFor (iOf (eV 1)) (gNm 3) (sSet 2 (eIx (eIx (eV 2) (eC (.int 1))) (eV 3)))) (sRet (eV 2)))
def P_is_path_of : SS := sSeq (sIf (bNot (bTru (eIsi .tuple (eV 1)))) (sRet (eC (.bl false))) (sPass)) (sSeq (sSet 2 (eV 0)) (sSeq (sFor (iOf (eV 1)) (gNm 3) (sSeq (sIf (bOr (bNot (bTru (eCall 6 (evs [eV 2])))) (bOr (bNot (bTru (eCall 1 (evs [eV 3])))) (bCmp (opCmp .GtE) (eV 3) (eCb bLen (evs [eIx (eV 2) (eC (.int 1))]))))) (sRet (eC (.bl false))) (sPass)) (sSet 2 (eIx (eIx (eV 2) (eC (.int 1))) (eV 3))))) (sRet (eNot (eCall 5 (evs [eV 2]))))))
def P_is_term : SS := sSeq (sSet 1 (eCall 7 (evs [eV 0]))) (sRet (eAnd (eCmp (opCmp .IsNot) (eV 1) (eC .non)) (eCall 8 (evs [eV 1]))))
def P_want_term : SS := sSeq (sIf (bNot (bTru (eCall 16 (evs [eV 0])))) (sNever) (sPass)) (sRet (eV 0))
def P_variables : SS := sRet (eCall 10 (evs [eCall 17 (evs [eV 0])]))
def P_nodes : SS := sRet (eCall 11 (evs [eCall 17 (evs [eV 0])]))
def P_depth : SS := sRet (eCall 12 (evs [eCall 17 (evs [eV 0])]))
def P_paths : SS := sRet (eCall 13 (evs [eCall 17 (evs [eV 0])]))
def P_part_at : SS := sSeq (sIf (bNot (bTru (eCall 15 (evs [eCall 17 (evs [eV 0]), eV 1])))) (sNever) (sPass)) (sRet (eCall 14 (evs [eV 0, eV 1])))
def P__law_pot : SS := sSeq (sSet 2 (eIf (bCmp (opCmp .Lt) (eV 1) (eCb bLen (evs [eV 0]))) (eCb bAbs (evs [eIx (eV 0) (eV 1)])) (eBin .Add (eBin .Mult (eC (.int 283)) (eV 1)) (eC (.int 197))))) (sRet (eLst (evs [eCb bMax (evs [eC (.int 0), eBin .Sub (eV 2) (eBin .Pow (eC (.int 10)) (eC (.int 18)))]), eBin .Add (eBin .Mod (eCb bInt (evs [eBin .Add (eBin .Add (eBin .Mult (eBin .Mod (eCb bInt (evs [eV 2])) (eC (.int 2147483549))) (eC (.int 40853))) (eBin .Mult (eC (.int 5099)) (eV 1))) (eC (.int 227))])) (eC (.int 2147483563))) (eC (.int 1))])))
def P__law_draw : SS := sSeq (sIf (bCmp (opCmp .Gt) (eIx (eV 0) (eC (.int 0))) (eC (.int 0))) (sSeq (sAsg (eCb bDivmod (evs [eIx (eV 0) (eC (.int 0)), eV 1])) (gTp [gSb (eV 0) (eC (.int 0)), gNm 2])) (sRet (eV 2))) (sPass)) (sSeq (sAsg (eBin .Mod (eCb bInt (evs [eBin .Add (eBin .Mult (eIx (eV 0) (eC (.int 1))) (eC (.int 45742))) (eC (.int 6199))])) (eC (.int 2147483587))) (gSb (eV 0) (eC (.int 1)))) (sRet (eBin .Mod (eCb bInt (evs [eBin .FloorDiv (eBin .Mod (eCb bInt (evs [eBin .Mult (eIx (eV 0) (eC (.int 1))) (eIx (eV 0) (eC (.int 1)))])) (eC (.int 2147483549))) (eC (.int 11))])) (eV 1))))
def P__law_pick : SS := sRet (eIx (eV 1) (eCall 24 (evs [eV 0, eCb bLen (evs [eV 1])])))
def P__law_term : SS := sSeq (sSet 2 (eCall 24 (evs [eV 0, eC (.int 7)]))) (sSeq (sIf (bOr (bCmp (opCmp .Eq) (eV 1) (eC (.int 0))) (bCmp (opCmp .Eq) (eV 2) (eC (.int 0)))) (sRet (eCall 25 (evs [eV 0, eLst (evs [eC (.str "X"), eC (.str "Y"), eC (.str "Z12"), eC (.str "X"), eC (.int 0), eNeg (eC (.int 3)), eC (.int 1000), eTup (evs [eC (.str "a"), eTup (evs [])]), eTup (evs [eC (.str "H"), eTup (evs [])])])]))) (sPass)) (sSeq (sSet 3 (eLc (iRange (evs [eCall 24 (evs [eV 0, eC (.int 4)])])) (.nm 4) (bYes) (eCall 26 (evs [eV 0, eBin .Sub (eV 1) (eC (.int 1))])) [4])) (sSeq (sIf (bCmp (opCmp .Eq) (eCall 24 (evs [eV 0, eC (.int 3)])) (eC (.int 0))) (sDrop (eCM aAppend (eV 3) (evs [eCall 25 (evs [eV 0, eLst (evs [eC (.str "*S"), eC (.str "*T"), eC (.str "*S9")])])]))) (sPass)) (sRet (eTup (evs [eCall 25 (evs [eV 0, eLst (evs [eC (.str "f"), eC (.str "g"), eC (.str "p1"), eC (.str "H"), eC (.str "K")])]), eCb bTuple (evs [eV 3])]))))))
def P__law_great : SS := sSeq (sSet 1 (eCall 26 (evs [eV 0, eC (.int 1)]))) (sSeq (sFor (iRange (evs [eBin .Add (eC (.int 6)) (eCall 24 (evs [eV 0, eC (.int 11)]))])) (gNm 2) (sSeq (sSet 3 (eLc (iRange (evs [eCall 24 (evs [eV 0, eC (.int 9)])])) (.nm 4) (bYes) (eCall 26 (evs [eV 0, eC (.int 0)])) [4])) (sSeq (sDrop (eCM aInsert (eV 3) (evs [eCall 24 (evs [eV 0, eBin .Add (eCb bLen (evs [eV 3])) (eC (.int 1))]), eV 1]))) (sSeq (sIf (bCmp (opCmp .Eq) (eCall 24 (evs [eV 0, eC (.int 4)])) (eC (.int 0))) (sDrop (eCM aAppend (eV 3) (evs [eCall 25 (evs [eV 0, eLst (evs [eC (.str "*S"), eC (.str "*T"), eC (.str "*S9")])])]))) (sPass)) (sSet 1 (eTup (evs [eCall 25 (evs [eV 0, eLst (evs [eC (.str "f"), eC (.str "g"), eC (.str "p1"), eC (.str "H"), eC (.str "K")])]), eCb bTuple (evs [eV 3])]))))))) (sRet (eV 1)))
def P__law_is_rest : SS := sRet (eAnd (eIsi .str (eV 0)) (eCmp (opCmp .Eq) (eIx (eV 0) (eC (.int 0))) (eC (.str "*"))))
def P__law_rows : SS := sSeq (sPar 1 2 (eLst (evs [eTup (evs [eTup (evs []), eV 0])])) (eC (.int 0))) (sSeq (sWhile (bCmp (opCmp .Lt) (eV 2) (eCb bLen (evs [eV 1]))) (sSeq (sAsg (eIx (eV 1) (eV 2)) (gTp [gNm 3, gNm 4])) (sSeq (sIf (bTru (eIsi .tuple (eV 4))) (sSeq (sSet 5 (eLc (iEnm (eIx (eV 4) (eC (.int 1)))) (.tup [.nm 6, .nm 7]) (bYes) (eTup (evs [eBin .Add (eV 3) (eTup (evs [eV 6])), eV 7])) [6, 7])) (sSet 1 (eBin .Add (eBin .Add (eSl (eV 1) (oNone) (oSome (eBin .Add (eV 2) (eC (.int 1))))) (eV 5)) (eSl (eV 1) (oSome (eBin .Add (eV 2) (eC (.int 1)))) (oNone))))) (sPass)) (sSet 2 (eBin .Add (eV 2) (eC (.int 1))))))) (sRet (eV 1)))
def P__law_depth : SS := sSeq (sIf (bNot (bTru (eIsi .tuple (eV 0)))) (sRet (eC (.int 1))) (sPass)) (sRet (eBin .Add (eC (.int 1)) (eCb bMax (evs [eBin .Add (eLst (evs [eC (.int 0)])) (eLc (iOf (eIx (eV 0) (eC (.int 1)))) (.nm 1) (bYes) (eCall 30 (evs [eV 1])) [1])]))))
def P__law_variables : SS := sSeq (sSet 1 (eLst (evs []))) (sSeq (sFor (iOf (eV 0)) (gTp [gNm 2, gNm 3]) (sSeq (sIf (bTru (eCall 28 (evs [eV 3]))) (sSet 4 (eTup (evs [eC (.str "rest"), eSl (eV 3) (oSome (eC (.int 1))) (oNone)]))) (sIf (bTru (eIsi .str (eV 3))) (sSet 4 (eTup (evs [eC (.str "term"), eV 3]))) (sIf (bAnd (bTru (eIsi .tuple (eV 3))) (bCmp (opCmp .In) (eIx (eIx (eV 3) (eC (.int 0))) (eC (.int 0))) (eC (.str "ABCDEFGHIJKLMNOPQRSTUVWXYZ")))) (sSet 4 (eTup (evs [eC (.str "head"), eIx (eV 3) (eC (.int 0))]))) (sSet 4 (eC .non))))) (sIf (bAnd (bCmp (opCmp .IsNot) (eV 4) (eC .non)) (bCmp (opCmp .NotIn) (eV 4) (eV 1))) (sDrop (eCM aAppend (eV 1) (evs [eV 4]))) (sPass)))) (sRet (eV 1)))
def P__law_some : SS := sRet (eIf (bCmp (opCmp .LtE) (eCb bLen (evs [eV 1])) (eV 2)) (eV 1) (eLc (iRange (evs [eV 2])) (.nm 3) (bYes) (eIx (eV 1) (eBin .Mod (eCall 24 (evs [eV 0, eC (.int 211)])) (eCb bLen (evs [eV 1])))) [3]))
def P__law_within_right : SS := sSeq (sSet 3 (eCallK 22 (evs []) (evs [eV 2, eV 1]) [1, 0])) (sSeq (sFor (iOf (eCall 32 (evs [eV 0, eCall 21 (evs [eV 3]), eC (.int 5)]))) (gNm 4) (sIf (bCmp (opCmp .NotEq) (eCall 22 (evs [eV 3, eV 4])) (eCall 22 (evs [eV 1, eBin .Add (eV 2) (eV 4)]))) (sRet (eC (.bl false))) (sPass))) (sRet (eAnd (eCmp (opCmp .LtE) (eCall 19 (evs [eV 3])) (eBin .Sub (eCall 19 (evs [eV 1])) (eCb bLen (evs [eV 2])))) (eCmp (opCmp .LtE) (eCall 20 (evs [eV 3])) (eBin .Sub (eCall 20 (evs [eV 1])) (eCb bLen (evs [eV 2])))))))
def P_law : SS := sSeq (sSet 1 (eCall 23 (evs [eV 0, eC (.int 0)]))) (sSeq (sSet 2 (eIf (bCmp (opCmp .Eq) (eCall 24 (evs [eV 1, eC (.int 4)])) (eC (.int 0))) (eCall 27 (evs [eV 1])) (eCall 26 (evs [eV 1, eBin .Add (eC (.int 1)) (eCall 24 (evs [eV 1, eC (.int 3)]))])))) (sSeq (sSet 3 (eCall 29 (evs [eV 2]))) (sSeq (sSet 4 (eCb fSorted (evs [eLc (iOf (eV 3)) (.tup [.nm 8, .nm 9]) (bNot (bTru (eCall 28 (evs [eV 9])))) (eV 8) [8, 9]]))) (sSeq (sPar 5 6 (eCall 21 (evs [eV 2])) (eCallK 18 (evs []) (evs [eV 2]) [0])) (sSeq (sIf (bOr (bCmp (opCmp .NotEq) (eCb fRepr (evs [eV 5])) (eCb fRepr (evs [eV 4]))) (bCmp (opCmp .NotEq) (eCb fRepr (evs [eV 6])) (eCb fRepr (evs [eCall 31 (evs [eV 3])])))) (sRet (eC (.bl false))) (sPass)) (sSeq (sIf (bCmp (opCmp .NotEq) (eCb fRepr (evs [eLst (evs [eCallK 19 (evs []) (evs [eV 2]) [0], eCallK 20 (evs []) (evs [eV 2]) [0]])])) (eCb fRepr (evs [eLst (evs [eCb bLen (evs [eV 3]), eCall 30 (evs [eV 2])])]))) (sRet (eC (.bl false))) (sPass)) (sSeq (sSet 7 (eCall 32 (evs [eV 1, eLc (iOf (eV 3)) (.tup [.nm 8, .nm 9]) (bNot (bTru (eCall 28 (evs [eV 9])))) (eTup (evs [eV 8, eV 9])) [8, 9], eC (.int 7)]))) (sSeq (sIf (bCmp (opCmp .NotEq) (eCb fRepr (evs [eLc (iOf (eV 7)) (.tup [.nm 8, .nm 9]) (bYes) (eCall 22 (evs [eV 2, eV 8])) [8, 9]])) (eCb fRepr (evs [eLc (iOf (eV 7)) (.tup [.nm 8, .nm 9]) (bYes) (eV 9) [8, 9]]))) (sRet (eC (.bl false))) (sPass)) (sSeq (sDrop (eCM aAppend (eV 5) (evs [eC .non]))) (sSeq (sDrop (eCM aAppend (eV 6) (evs [eC .non]))) (sSeq (sIf (bOr (bCmp (opCmp .NotEq) (eCall 21 (evs [eV 2])) (eV 4)) (bCmp (opCmp .NotEq) (eCall 18 (evs [eV 2])) (eCall 31 (evs [eV 3])))) (sRet (eC (.bl false))) (sPass)) (sRet (eCall 33 (evs [eV 1, eV 2, eIx (eV 4) (eBin .Mod (eCall 24 (evs [eV 1, eC (.int 211)])) (eCb bLen (evs [eV 4])))]))))))))))))))
def T : Tab := [(1, P_is_integer), (1, P_is_count), (2, P_is_name), (2, P_is_variable), (1, P_is_head), (1, P_is_rest), (1, P_is_applied), (7, P_standings), (4, P_have_one_sort), (6, P_pieces), (5, P_variables_of), (1, P_nodes_of), (3, P_depth_of), (7, P_paths_of), (4, P_part_of), (4, P_is_path_of), (2, P_is_term), (1, P_want_term), (1, P_variables), (1, P_nodes), (1, P_depth), (1, P_paths), (2, P_part_at), (3, P__law_pot), (3, P__law_draw), (2, P__law_pick), (5, P__law_term), (5, P__law_great), (1, P__law_is_rest), (8, P__law_rows), (2, P__law_depth), (5, P__law_variables), (4, P__law_some), (5, P__law_within_right), (10, P_law)]
variable {P : Program} {w : World} {K : PySem.W.Frag} {mg : Str → Option Value} {base : Heap}
/-- what the top holds -/
structure GC (mg : Str → Option Value) : Prop where
  b_abs : mg "abs" = none
  b_all : mg "all" = none
  b_bool : mg "bool" = none
  b_divmod : mg "divmod" = none
  b_enumerate : mg "enumerate" = none
  b_int : mg "int" = none
  b_isinstance : mg "isinstance" = none
  b_len : mg "len" = none
  b_max : mg "max" = none
  b_range : mg "range" = none
  b_repr : mg "repr" = none
  b_sorted : mg "sorted" = none
  b_str : mg "str" = none
  b_tuple : mg "tuple" = none
  c_DIGITS : HasC mg "DIGITS" (.str "0123456789")
  c_GREAT : HasC mg "GREAT" (.str "ABCDEFGHIJKLMNOPQRSTUVWXYZ")
  c_HEAD : HasC mg "HEAD" (.str "head")
  c_MOST_DIGITS : HasC mg "MOST_DIGITS" (.int (2))
  c_MOST_SIGNS : HasC mg "MOST_SIGNS" (.int (8))
  c_REST : HasC mg "REST" (.str "rest")
  c_SMALL : HasC mg "SMALL" (.str "abcdefghijklmnopqrstuvwxyz")
  c_TERM : HasC mg "TERM" (.str "term")
structure G (P : Program) (w : World) (K : PySem.W.Frag) (mg : Str → Option Value) (base : Heap) (F : Fns) (n : Nat) : Prop extends GC mg where
  f_is_integer : FnR P w K mg base (fun _ => 0) F n 0 "is_integer" ["value"] S_is_integer
  f_is_count : FnR P w K mg base (fun _ => 0) F n 1 "is_count" ["value"] S_is_count
  f_is_name : FnR P w K mg base (fun _ => 0) F n 2 "is_name" ["value"] S_is_name
  f_is_variable : FnR P w K mg base (fun _ => 0) F n 3 "is_variable" ["value"] S_is_variable
  f_is_head : FnR P w K mg base (fun _ => 0) F n 4 "is_head" ["value"] S_is_head
  f_is_rest : FnR P w K mg base (fun _ => 0) F n 5 "is_rest" ["value"] S_is_rest
  f_is_applied : FnR P w K mg base (fun _ => 0) F n 6 "is_applied" ["value"] S_is_applied
  f_standings : FnR P w K mg base (fun _ => 0) F n 7 "standings" ["value"] S_standings
  f_have_one_sort : FnR P w K mg base (fun _ => 0) F n 8 "have_one_sort" ["found"] S_have_one_sort
  f_pieces : FnR P w K mg base (fun _ => 0) F n 9 "pieces" ["term"] S_pieces
  f_variables_of : FnR P w K mg base (fun _ => 0) F n 10 "variables_of" ["term"] S_variables_of
  f_nodes_of : FnR P w K mg base (fun _ => 0) F n 11 "nodes_of" ["term"] S_nodes_of
  f_depth_of : FnR P w K mg base (fun _ => 0) F n 12 "depth_of" ["term"] S_depth_of
  f_paths_of : FnR P w K mg base (fun _ => 0) F n 13 "paths_of" ["term"] S_paths_of
  f_part_of : FnR P w K mg base (fun _ => 0) F n 14 "part_of" ["term", "path"] S_part_of
  f_is_path_of : FnR P w K mg base (fun _ => 0) F n 15 "is_path_of" ["term", "value"] S_is_path_of
  f_is_term : FnR P w K mg base (fun _ => 0) F n 16 "is_term" ["value"] S_is_term
  f_want_term : FnR P w K mg base (fun _ => 0) F n 17 "want_term" ["value"] S_want_term
  f_variables : FnR P w K mg base (fun _ => 0) F n 18 "variables" ["term"] S_variables
  f_nodes : FnR P w K mg base (fun _ => 0) F n 19 "nodes" ["term"] S_nodes
  f_depth : FnR P w K mg base (fun _ => 0) F n 20 "depth" ["term"] S_depth
  f_paths : FnR P w K mg base (fun _ => 0) F n 21 "paths" ["term"] S_paths
  f_part_at : FnR P w K mg base (fun _ => 0) F n 22 "part_at" ["term", "path"] S_part_at
  f__law_pot : FnR P w K mg base (fun _ => 0) F n 23 "_law_pot" ["script", "k"] S__law_pot
  f__law_draw : FnR P w K mg base (fun _ => 0) F n 24 "_law_draw" ["pot", "many"] S__law_draw
  f__law_pick : FnR P w K mg base (fun _ => 0) F n 25 "_law_pick" ["pot", "some"] S__law_pick
  f__law_term : FnR P w K mg base (fun _ => 0) F n 26 "_law_term" ["pot", "deep"] S__law_term
  f__law_great : FnR P w K mg base (fun _ => 0) F n 27 "_law_great" ["pot"] S__law_great
  f__law_is_rest : FnR P w K mg base (fun _ => 0) F n 28 "_law_is_rest" ["value"] S__law_is_rest
  f__law_rows : FnR P w K mg base (fun _ => 0) F n 29 "_law_rows" ["term"] S__law_rows
  f__law_depth : FnR P w K mg base (fun _ => 0) F n 30 "_law_depth" ["term"] S__law_depth
  f__law_variables : FnR P w K mg base (fun _ => 0) F n 31 "_law_variables" ["rows"] S__law_variables
  f__law_some : FnR P w K mg base (fun _ => 0) F n 32 "_law_some" ["pot", "rows", "many"] S__law_some
  f__law_within_right : FnR P w K mg base (fun _ => 0) F n 33 "_law_within_right" ["pot", "term", "path"] S__law_within_right
  f_law : FnR P w K mg base (fun _ => 0) F n 34 "law" ["script"] S_law
theorem sc_is_integer : FnScope N_is_integer ["value"] (defScope S_is_integer) := ⟨rfl, rfl, rfl, by decide +kernel, rfl, by decide +kernel, by decide +kernel⟩
theorem sc_is_count : FnScope N_is_count ["value"] (defScope S_is_count) := ⟨rfl, rfl, rfl, by decide +kernel, rfl, by decide +kernel, by decide +kernel⟩
theorem sc_is_name : FnScope N_is_name ["value"] (defScope S_is_name) := ⟨rfl, rfl, rfl, by decide +kernel, rfl, by decide +kernel, by decide +kernel⟩
theorem sc_is_variable : FnScope N_is_variable ["value"] (defScope S_is_variable) := ⟨rfl, rfl, rfl, by decide +kernel, rfl, by decide +kernel, by decide +kernel⟩
theorem sc_is_head : FnScope N_is_head ["value"] (defScope S_is_head) := ⟨rfl, rfl, rfl, by decide +kernel, rfl, by decide +kernel, by decide +kernel⟩
theorem sc_is_rest : FnScope N_is_rest ["value"] (defScope S_is_rest) := ⟨rfl, rfl, rfl, by decide +kernel, rfl, by decide +kernel, by decide +kernel⟩
theorem sc_is_applied : FnScope N_is_applied ["value"] (defScope S_is_applied) := ⟨rfl, rfl, rfl, by decide +kernel, rfl, by decide +kernel, by decide +kernel⟩
theorem sc_standings : FnScope N_standings ["value"] (defScope S_standings) := ⟨rfl, rfl, rfl, by decide +kernel, rfl, by decide +kernel, by decide +kernel⟩
theorem sc_have_one_sort : FnScope N_have_one_sort ["found"] (defScope S_have_one_sort) := ⟨rfl, rfl, rfl, by decide +kernel, rfl, by decide +kernel, by decide +kernel⟩
theorem sc_pieces : FnScope N_pieces ["term"] (defScope S_pieces) := ⟨rfl, rfl, rfl, by decide +kernel, rfl, by decide +kernel, by decide +kernel⟩
theorem sc_variables_of : FnScope N_variables_of ["term"] (defScope S_variables_of) := ⟨rfl, rfl, rfl, by decide +kernel, rfl, by decide +kernel, by decide +kernel⟩
theorem sc_nodes_of : FnScope N_nodes_of ["term"] (defScope S_nodes_of) := ⟨rfl, rfl, rfl, by decide +kernel, rfl, by decide +kernel, by decide +kernel⟩
theorem sc_depth_of : FnScope N_depth_of ["term"] (defScope S_depth_of) := ⟨rfl, rfl, rfl, by decide +kernel, rfl, by decide +kernel, by decide +kernel⟩
theorem sc_paths_of : FnScope N_paths_of ["term"] (defScope S_paths_of) := ⟨rfl, rfl, rfl, by decide +kernel, rfl, by decide +kernel, by decide +kernel⟩
theorem sc_part_of : FnScope N_part_of ["term", "path"] (defScope S_part_of) := ⟨rfl, rfl, rfl, by decide +kernel, rfl, by decide +kernel, by decide +kernel⟩
theorem sc_is_path_of : FnScope N_is_path_of ["term", "value"] (defScope S_is_path_of) := ⟨rfl, rfl, rfl, by decide +kernel, rfl, by decide +kernel, by decide +kernel⟩
theorem sc_is_term : FnScope N_is_term ["value"] (defScope S_is_term) := ⟨rfl, rfl, rfl, by decide +kernel, rfl, by decide +kernel, by decide +kernel⟩
theorem sc_want_term : FnScope N_want_term ["value"] (defScope S_want_term) := ⟨rfl, rfl, rfl, by decide +kernel, rfl, by decide +kernel, by decide +kernel⟩
theorem sc_variables : FnScope N_variables ["term"] (defScope S_variables) := ⟨rfl, rfl, rfl, by decide +kernel, rfl, by decide +kernel, by decide +kernel⟩
theorem sc_nodes : FnScope N_nodes ["term"] (defScope S_nodes) := ⟨rfl, rfl, rfl, by decide +kernel, rfl, by decide +kernel, by decide +kernel⟩
theorem sc_depth : FnScope N_depth ["term"] (defScope S_depth) := ⟨rfl, rfl, rfl, by decide +kernel, rfl, by decide +kernel, by decide +kernel⟩
theorem sc_paths : FnScope N_paths ["term"] (defScope S_paths) := ⟨rfl, rfl, rfl, by decide +kernel, rfl, by decide +kernel, by decide +kernel⟩
theorem sc_part_at : FnScope N_part_at ["term", "path"] (defScope S_part_at) := ⟨rfl, rfl, rfl, by decide +kernel, rfl, by decide +kernel, by decide +kernel⟩
theorem sc__law_pot : FnScope N__law_pot ["script", "k"] (defScope S__law_pot) := ⟨rfl, rfl, rfl, by decide +kernel, rfl, by decide +kernel, by decide +kernel⟩
theorem sc__law_draw : FnScope N__law_draw ["pot", "many"] (defScope S__law_draw) := ⟨rfl, rfl, rfl, by decide +kernel, rfl, by decide +kernel, by decide +kernel⟩
theorem sc__law_pick : FnScope N__law_pick ["pot", "some"] (defScope S__law_pick) := ⟨rfl, rfl, rfl, by decide +kernel, rfl, by decide +kernel, by decide +kernel⟩
theorem sc__law_term : FnScope N__law_term ["pot", "deep"] (defScope S__law_term) := ⟨rfl, rfl, rfl, by decide +kernel, rfl, by decide +kernel, by decide +kernel⟩
theorem sc__law_great : FnScope N__law_great ["pot"] (defScope S__law_great) := ⟨rfl, rfl, rfl, by decide +kernel, rfl, by decide +kernel, by decide +kernel⟩
theorem sc__law_is_rest : FnScope N__law_is_rest ["value"] (defScope S__law_is_rest) := ⟨rfl, rfl, rfl, by decide +kernel, rfl, by decide +kernel, by decide +kernel⟩
theorem sc__law_rows : FnScope N__law_rows ["term"] (defScope S__law_rows) := ⟨rfl, rfl, rfl, by decide +kernel, rfl, by decide +kernel, by decide +kernel⟩
theorem sc__law_depth : FnScope N__law_depth ["term"] (defScope S__law_depth) := ⟨rfl, rfl, rfl, by decide +kernel, rfl, by decide +kernel, by decide +kernel⟩
theorem sc__law_variables : FnScope N__law_variables ["rows"] (defScope S__law_variables) := ⟨rfl, rfl, rfl, by decide +kernel, rfl, by decide +kernel, by decide +kernel⟩
theorem sc__law_some : FnScope N__law_some ["pot", "rows", "many"] (defScope S__law_some) := ⟨rfl, rfl, rfl, by decide +kernel, rfl, by decide +kernel, by decide +kernel⟩
theorem sc__law_within_right : FnScope N__law_within_right ["pot", "term", "path"] (defScope S__law_within_right) := ⟨rfl, rfl, rfl, by decide +kernel, rfl, by decide +kernel, by decide +kernel⟩
theorem sc_law : FnScope N_law ["script"] (defScope S_law) := ⟨rfl, rfl, rfl, by decide +kernel, rfl, by decide +kernel, by decide +kernel⟩
theorem k_is_integer {F : Fns} {n : Nat} (g : G P w K mg base F n) (f : Addr) (cdv : Value) (A : Around) (outer : List PySem.Env) (s : Shared) (H : Hp) (E : XK) (hr : Room n (A.deeper (envOfC "is_integer" (defScope S_is_integer) s.heap.objs.size f cdv))) (hG : A.guards = some []) :
    PSs (cxOf CX0 P w K mg base N_is_integer "is_integer" (defScope S_is_integer) f cdv A outer s H E).nox (defBody S_is_integer) (rdS K (fun _ => 0) F W0 P_is_integer) :=
  have nd := sc_is_integer.nd
  have hu := hu65 hr
  s_one (s_ret (c_and (w_isi .int g.b_isinstance (pe_bltn (by rfl) g.b_int boot_int rfl) (w_v 0)) (c_and1 (c_not (w_isi .bool g.b_isinstance (pe_bltn (by rfl) g.b_bool boot_bool rfl) (w_v 0))))))
theorem k_is_count {F : Fns} {n : Nat} (g : G P w K mg base F n) (f : Addr) (cdv : Value) (A : Around) (outer : List PySem.Env) (s : Shared) (H : Hp) (E : XK) (hr : Room n (A.deeper (envOfC "is_count" (defScope S_is_count) s.heap.objs.size f cdv))) (hG : A.guards = some []) :
    PSs (cxOf CX0 P w K mg base N_is_count "is_count" (defScope S_is_count) f cdv A outer s H E).nox (defBody S_is_count) (rdS K (fun _ => 0) F W0 P_is_count) :=
  have nd := sc_is_count.nd
  have hu := hu65 hr
  s_one (s_ret (c_and (c_call g.f_is_integer hr hG (by rfl) (a1 (w_v 0) (a0))) (c_and1 (w_cmp hu (w_v 0) (c_int)))))
theorem k_is_name {F : Fns} {n : Nat} (g : G P w K mg base F n) (f : Addr) (cdv : Value) (A : Around) (outer : List PySem.Env) (s : Shared) (H : Hp) (E : XK) (hr : Room n (A.deeper (envOfC "is_name" (defScope S_is_name) s.heap.objs.size f cdv))) (hG : A.guards = some []) :
    PSs (cxOf CX0 P w K mg base N_is_name "is_name" (defScope S_is_name) f cdv A outer s H E).nox (defBody S_is_name) (rdS K (fun _ => 0) F W0 P_is_name) :=
  have nd := sc_is_name.nd
  have hu := hu65 hr
  s_seq (s_if ((cw_or (ct_not (wt_tru (w_isi .str g.b_isinstance (pe_bltn (by rfl) g.b_str boot_str rfl) (w_v 0)))) (cw_or (ct_not (wt_chain hu (c_int) (w_fn or_len on_len boot_len g.b_len (a1 (w_v 0) (a0))) (w_gi g.c_MOST_SIGNS))) (cw_or1 (wt_cmp hu (w_ix hu (w_v 0) (c_int)) (w_gs g.c_SMALL))))).pt) (s_one (s_ret (c_bl))) (s_nil)) (s_one (s_ret (w_fn (cr_all rfl) on_all boot_all g.b_all (a1 (c_lc rfl nd (ci_of (w_v 0)) (blkOk_by (own := [("sign", 1)]) (by rfl)) (by decide) (by rfl) (fun _ _ _ _ _ => t_nm nd (by rfl) (by first | exact Or.inl rfl | exact Or.inr rfl)) (fun _ _ _ _ _ => q_yes) (fun _ _ _ _ _ => c_or (w_cmp hu (w_v 1) (w_gs g.c_SMALL)) (c_or1 (w_cmp hu (w_v 1) (w_gs g.c_DIGITS))))) (a0)))))
theorem k_is_variable {F : Fns} {n : Nat} (g : G P w K mg base F n) (f : Addr) (cdv : Value) (A : Around) (outer : List PySem.Env) (s : Shared) (H : Hp) (E : XK) (hr : Room n (A.deeper (envOfC "is_variable" (defScope S_is_variable) s.heap.objs.size f cdv))) (hG : A.guards = some []) :
    PSs (cxOf CX0 P w K mg base N_is_variable "is_variable" (defScope S_is_variable) f cdv A outer s H E).nox (defBody S_is_variable) (rdS K (fun _ => 0) F W0 P_is_variable) :=
  have nd := sc_is_variable.nd
  have hu := hu65 hr
  s_seq (s_if ((cw_or (ct_not (wt_tru (w_isi .str g.b_isinstance (pe_bltn (by rfl) g.b_str boot_str rfl) (w_v 0)))) (cw_or (ct_not (wt_chain hu (c_int) (w_fn or_len on_len boot_len g.b_len (a1 (w_v 0) (a0))) (w_bin (w_gi g.c_MOST_DIGITS) (c_int)))) (cw_or1 (wt_cmp hu (w_ix hu (w_v 0) (c_int)) (w_gs g.c_GREAT))))).pt) (s_one (s_ret (c_bl))) (s_nil)) (s_one (s_ret (w_fn (cr_all rfl) on_all boot_all g.b_all (a1 (c_lc rfl nd (ci_of (c_sl (w_v 0) (co_some (c_int)) (co_none))) (blkOk_by (own := [("sign", 1)]) (by rfl)) (by decide) (by rfl) (fun _ _ _ _ _ => t_nm nd (by rfl) (by first | exact Or.inl rfl | exact Or.inr rfl)) (fun _ _ _ _ _ => q_yes) (fun _ _ _ _ _ => w_cmp hu (w_v 1) (w_gs g.c_DIGITS))) (a0)))))
theorem k_is_head {F : Fns} {n : Nat} (g : G P w K mg base F n) (f : Addr) (cdv : Value) (A : Around) (outer : List PySem.Env) (s : Shared) (H : Hp) (E : XK) (hr : Room n (A.deeper (envOfC "is_head" (defScope S_is_head) s.heap.objs.size f cdv))) (hG : A.guards = some []) :
    PSs (cxOf CX0 P w K mg base N_is_head "is_head" (defScope S_is_head) f cdv A outer s H E).nox (defBody S_is_head) (rdS K (fun _ => 0) F W0 P_is_head) :=
  have nd := sc_is_head.nd
  have hu := hu65 hr
  s_one (s_ret (c_or (c_call g.f_is_name hr hG (by rfl) (a1 (w_v 0) (a0))) (c_or1 (c_call g.f_is_variable hr hG (by rfl) (a1 (w_v 0) (a0))))))
theorem k_is_rest {F : Fns} {n : Nat} (g : G P w K mg base F n) (f : Addr) (cdv : Value) (A : Around) (outer : List PySem.Env) (s : Shared) (H : Hp) (E : XK) (hr : Room n (A.deeper (envOfC "is_rest" (defScope S_is_rest) s.heap.objs.size f cdv))) (hG : A.guards = some []) :
    PSs (cxOf CX0 P w K mg base N_is_rest "is_rest" (defScope S_is_rest) f cdv A outer s H E).nox (defBody S_is_rest) (rdS K (fun _ => 0) F W0 P_is_rest) :=
  have nd := sc_is_rest.nd
  have hu := hu65 hr
  s_one (s_ret (c_and (w_isi .str g.b_isinstance (pe_bltn (by rfl) g.b_str boot_str rfl) (w_v 0)) (c_and (w_cmp hu (c_sl (w_v 0) (co_none) (co_some (c_int))) (c_str)) (c_and1 (c_call g.f_is_variable hr hG (by rfl) (a1 (c_sl (w_v 0) (co_some (c_int)) (co_none)) (a0)))))))
theorem k_is_applied {F : Fns} {n : Nat} (g : G P w K mg base F n) (f : Addr) (cdv : Value) (A : Around) (outer : List PySem.Env) (s : Shared) (H : Hp) (E : XK) (hr : Room n (A.deeper (envOfC "is_applied" (defScope S_is_applied) s.heap.objs.size f cdv))) (hG : A.guards = some []) :
    PSs (cxOf CX0 P w K mg base N_is_applied "is_applied" (defScope S_is_applied) f cdv A outer s H E).nox (defBody S_is_applied) (rdS K (fun _ => 0) F W0 P_is_applied) :=
  have nd := sc_is_applied.nd
  have hu := hu65 hr
  s_one (s_ret (c_and (w_isi .tuple g.b_isinstance (pe_bltn (by rfl) g.b_tuple boot_tuple rfl) (w_v 0)) (c_and1 (w_cmp hu (w_fn or_len on_len boot_len g.b_len (a1 (w_v 0) (a0))) (c_int)))))
theorem k_standings {F : Fns} {n : Nat} (g : G P w K mg base F n) (f : Addr) (cdv : Value) (A : Around) (outer : List PySem.Env) (s : Shared) (H : Hp) (E : XK) (hr : Room n (A.deeper (envOfC "standings" (defScope S_standings) s.heap.objs.size f cdv))) (hG : A.guards = some []) :
    PSs (cxOf CX0 P w K mg base N_standings "standings" (defScope S_standings) f cdv A outer s H E).nox (defBody S_standings) (rdS K (fun _ => 0) F W0 P_standings) :=
  have nd := sc_standings.nd
  have hu := hu65 hr
  s_seq (s_par rfl nd (by rfl) (by rfl) (by decide) (by rfl) (by rfl) (c_lst (a0)) (c_lst (a1 (c_tup (a1 (w_v 0) (a1 (c_bl) (a0)))) (a0))) (by rfl)) (s_seq (s_while PassesOwn.never (wt_cmp hu (w_v 2) (c_lst (a0))) (s_seq (s_asg (c_pop (w_v 2)) (g_tp rfl (gs_cons (g_nm nd (by rfl) (by first | exact Or.inl rfl | exact Or.inr rfl)) (gs_cons (g_nm nd (by rfl) (by first | exact Or.inl rfl | exact Or.inr rfl)) (gs_nil))))) (s_one (s_if (wt_tru (c_call g.f_is_variable hr hG (by rfl) (a1 (w_v 3) (a0)))) (s_one (s_drop (c_append (w_v 1) (c_tup (a1 (w_gs g.c_TERM) (a1 (w_v 3) (a0))))))) (s_one (s_if ((cw_and (wt_tru (w_v 4)) (cw_and1 (wt_tru (c_call g.f_is_rest hr hG (by rfl) (a1 (w_v 3) (a0)))))).pt) (s_one (s_drop (c_append (w_v 1) (c_tup (a1 (w_gs g.c_REST) (a1 (c_sl (w_v 3) (co_some (c_int)) (co_none)) (a0))))))) (s_one (s_if ((cw_and (wt_tru (c_call g.f_is_applied hr hG (by rfl) (a1 (w_v 3) (a0)))) (cw_and (wt_tru (c_call g.f_is_head hr hG (by rfl) (a1 (w_ix hu (w_v 3) (c_int)) (a0)))) (cw_and1 (wt_tru (w_isi .tuple g.b_isinstance (pe_bltn (by rfl) g.b_tuple boot_tuple rfl) (w_ix hu (w_v 3) (c_int))))))).pt) (s_seq (s_if (wt_tru (c_call g.f_is_variable hr hG (by rfl) (a1 (w_ix hu (w_v 3) (c_int)) (a0)))) (s_one (s_drop (c_append (w_v 1) (c_tup (a1 (w_gs g.c_HEAD) (a1 (w_ix hu (w_v 3) (c_int)) (a0))))))) (s_nil)) (s_seq (s_set nd (by rfl) (by first | exact Or.inl rfl | exact Or.inr rfl) (w_bin (w_fn or_len on_len boot_len g.b_len (a1 (w_ix hu (w_v 3) (c_int)) (a0))) (c_int))) (s_one (s_drop (c_extend (w_v 2) (c_lc rfl nd (w_r3 g.b_range (w_v 5) (c_neg (c_int)) (c_neg (c_int))) (blkOk_by (own := [("at", 6)]) (by rfl)) (by decide) (by rfl) (fun _ _ _ _ _ => t_nm nd (by rfl) (by first | exact Or.inl rfl | exact Or.inr rfl)) (fun _ _ _ _ _ => q_yes) (fun _ _ _ _ _ => c_tup (a1 (w_ix hu (w_ix hu (w_v 3) (c_int)) (w_v 6)) (a1 (w_cmp hu (w_v 6) (w_v 5)) (a0)))))))))) (s_one (s_if (ct_not (wt_tru (c_call g.f_is_integer hr hG (by rfl) (a1 (w_v 3) (a0))))) (s_one (s_ret (c_non))) (s_nil))))))))))) (s_one (s_ret (w_v 1))))
theorem k_have_one_sort {F : Fns} {n : Nat} (g : G P w K mg base F n) (f : Addr) (cdv : Value) (A : Around) (outer : List PySem.Env) (s : Shared) (H : Hp) (E : XK) (hr : Room n (A.deeper (envOfC "have_one_sort" (defScope S_have_one_sort) s.heap.objs.size f cdv))) (hG : A.guards = some []) :
    PSs (cxOf CX0 P w K mg base N_have_one_sort "have_one_sort" (defScope S_have_one_sort) f cdv A outer s H E).nox (defBody S_have_one_sort) (rdS K (fun _ => 0) F W0 P_have_one_sort) :=
  have nd := sc_have_one_sort.nd
  have hu := hu65 hr
  s_seq (s_set nd (by rfl) (by first | exact Or.inl rfl | exact Or.inr rfl) (c_dict0)) (s_one (s_ret (w_fn (cr_all rfl) on_all boot_all g.b_all (a1 (c_lc rfl nd (ci_of (w_v 0)) (blkOk_by (own := [("sort", 2), ("variable", 3)]) (by rfl)) (by decide) (by rfl) (fun _ _ _ _ _ => t_tp rfl (t_cons (t_nm nd (by rfl) (by first | exact Or.inl rfl | exact Or.inr rfl)) (t_cons (t_nm nd (by rfl) (by first | exact Or.inl rfl | exact Or.inr rfl)) (t_nil)))) (fun _ _ _ _ _ => q_yes) (fun _ _ _ _ _ => w_cmp hu (c_setd (w_v 1) (w_v 3) (w_v 2) ⟨by rfl, by rfl, by rfl, by rfl⟩) (w_v 2))) (a0)))))
theorem k_pieces {F : Fns} {n : Nat} (g : G P w K mg base F n) (f : Addr) (cdv : Value) (A : Around) (outer : List PySem.Env) (s : Shared) (H : Hp) (E : XK) (hr : Room n (A.deeper (envOfC "pieces" (defScope S_pieces) s.heap.objs.size f cdv))) (hG : A.guards = some []) :
    PSs (cxOf CX0 P w K mg base N_pieces "pieces" (defScope S_pieces) f cdv A outer s H E).nox (defBody S_pieces) (rdS K (fun _ => 0) F W0 P_pieces) :=
  have nd := sc_pieces.nd
  have hu := hu65 hr
  s_seq (s_par rfl nd (by rfl) (by rfl) (by decide) (by rfl) (by rfl) (c_lst (a0)) (c_lst (a1 (c_tup (a1 (w_v 0) (a1 (c_int) (a0)))) (a0))) (by rfl)) (s_seq (s_while PassesOwn.never (wt_cmp hu (w_v 2) (c_lst (a0))) (s_seq (s_asg (c_pop (w_v 2)) (g_tp rfl (gs_cons (g_nm nd (by rfl) (by first | exact Or.inl rfl | exact Or.inr rfl)) (gs_cons (g_nm nd (by rfl) (by first | exact Or.inl rfl | exact Or.inr rfl)) (gs_nil))))) (s_seq (s_drop (c_append (w_v 1) (c_tup (a1 (w_v 3) (a1 (w_v 4) (a0)))))) (s_one (s_if (wt_tru (c_call g.f_is_applied hr hG (by rfl) (a1 (w_v 3) (a0)))) (s_one (s_drop (c_extend (w_v 2) (c_lc rfl nd (ci_of (c_rev (w_ix hu (w_v 3) (c_int)))) (blkOk_by (own := [("arg", 5)]) (by rfl)) (by decide) (by rfl) (fun _ _ _ _ _ => t_nm nd (by rfl) (by first | exact Or.inl rfl | exact Or.inr rfl)) (fun _ _ _ _ _ => q_yes) (fun _ _ _ _ _ => c_tup (a1 (w_v 5) (a1 (w_bin (w_v 4) (c_int)) (a0)))))))) (s_nil)))))) (s_one (s_ret (w_v 1))))
theorem k_variables_of {F : Fns} {n : Nat} (g : G P w K mg base F n) (f : Addr) (cdv : Value) (A : Around) (outer : List PySem.Env) (s : Shared) (H : Hp) (E : XK) (hr : Room n (A.deeper (envOfC "variables_of" (defScope S_variables_of) s.heap.objs.size f cdv))) (hG : A.guards = some []) :
    PSs (cxOf CX0 P w K mg base N_variables_of "variables_of" (defScope S_variables_of) f cdv A outer s H E).nox (defBody S_variables_of) (rdS K (fun _ => 0) F W0 P_variables_of) :=
  have nd := sc_variables_of.nd
  have hu := hu65 hr
  s_seq (s_par rfl nd (by rfl) (by rfl) (by decide) (by rfl) (by rfl) (c_lst (a0)) (c_dict0) (by rfl)) (s_seq (s_for PassesOwn.never rfl (ci_of (c_call g.f_standings hr hG (by rfl) (a1 (w_v 0) (a0)))) (g_tp rfl (gs_cons (g_nm nd (by rfl) (by first | exact Or.inl rfl | exact Or.inr rfl)) (gs_cons (g_nm nd (by rfl) (by first | exact Or.inl rfl | exact Or.inr rfl)) (gs_nil)))) (s_one (s_if (wt_cmp hu (w_v 4) (w_v 2)) (s_seq (s_drop (c_append (w_v 1) (c_tup (a1 (w_v 3) (a1 (w_v 4) (a0)))))) (s_one (s_asg (c_bl) (g_sb (lt1 hu) (w_v 2) (w_v 4))))) (s_nil)))) (s_one (s_ret (w_v 1))))
theorem k_nodes_of {F : Fns} {n : Nat} (g : G P w K mg base F n) (f : Addr) (cdv : Value) (A : Around) (outer : List PySem.Env) (s : Shared) (H : Hp) (E : XK) (hr : Room n (A.deeper (envOfC "nodes_of" (defScope S_nodes_of) s.heap.objs.size f cdv))) (hG : A.guards = some []) :
    PSs (cxOf CX0 P w K mg base N_nodes_of "nodes_of" (defScope S_nodes_of) f cdv A outer s H E).nox (defBody S_nodes_of) (rdS K (fun _ => 0) F W0 P_nodes_of) :=
  have nd := sc_nodes_of.nd
  have hu := hu65 hr
  s_one (s_ret (w_fn or_len on_len boot_len g.b_len (a1 (c_call g.f_pieces hr hG (by rfl) (a1 (w_v 0) (a0))) (a0))))
theorem k_depth_of {F : Fns} {n : Nat} (g : G P w K mg base F n) (f : Addr) (cdv : Value) (A : Around) (outer : List PySem.Env) (s : Shared) (H : Hp) (E : XK) (hr : Room n (A.deeper (envOfC "depth_of" (defScope S_depth_of) s.heap.objs.size f cdv))) (hG : A.guards = some []) :
    PSs (cxOf CX0 P w K mg base N_depth_of "depth_of" (defScope S_depth_of) f cdv A outer s H E).nox (defBody S_depth_of) (rdS K (fun _ => 0) F W0 P_depth_of) :=
  have nd := sc_depth_of.nd
  have hu := hu65 hr
  s_one (s_ret (w_fn (or_max rfl) on_max boot_max g.b_max (a1 (c_lc rfl nd (ci_of (c_call g.f_pieces hr hG (by rfl) (a1 (w_v 0) (a0)))) (blkOk_by (own := [("piece", 1), ("level", 2)]) (by rfl)) (by decide) (by rfl) (fun _ _ _ _ _ => t_tp rfl (t_cons (t_nm nd (by rfl) (by first | exact Or.inl rfl | exact Or.inr rfl)) (t_cons (t_nm nd (by rfl) (by first | exact Or.inl rfl | exact Or.inr rfl)) (t_nil)))) (fun _ _ _ _ _ => q_yes) (fun _ _ _ _ _ => w_v 2)) (a0))))
theorem k_paths_of {F : Fns} {n : Nat} (g : G P w K mg base F n) (f : Addr) (cdv : Value) (A : Around) (outer : List PySem.Env) (s : Shared) (H : Hp) (E : XK) (hr : Room n (A.deeper (envOfC "paths_of" (defScope S_paths_of) s.heap.objs.size f cdv))) (hG : A.guards = some []) :
    PSs (cxOf CX0 P w K mg base N_paths_of "paths_of" (defScope S_paths_of) f cdv A outer s H E).nox (defBody S_paths_of) (rdS K (fun _ => 0) F W0 P_paths_of) :=
  have nd := sc_paths_of.nd
  have hu := hu65 hr
  s_seq (s_par rfl nd (by rfl) (by rfl) (by decide) (by rfl) (by rfl) (c_lst (a0)) (c_lst (a1 (c_tup (a1 (c_tup (a0)) (a1 (w_v 0) (a0)))) (a0))) (by rfl)) (s_seq (s_while PassesOwn.never (wt_cmp hu (w_v 2) (c_lst (a0))) (s_seq (s_asg (c_pop (w_v 2)) (g_tp rfl (gs_cons (g_nm nd (by rfl) (by first | exact Or.inl rfl | exact Or.inr rfl)) (gs_cons (g_nm nd (by rfl) (by first | exact Or.inl rfl | exact Or.inr rfl)) (gs_nil))))) (s_seq (s_drop (c_append (w_v 1) (w_v 3))) (s_one (s_if (wt_tru (c_call g.f_is_applied hr hG (by rfl) (a1 (w_v 4) (a0)))) (s_one (s_drop (c_extend (w_v 2) (c_lc rfl nd (ci_enum (by rfl) g.b_enumerate (w_ix hu (w_v 4) (c_int))) (blkOk_by (own := [("at", 5), ("arg", 6)]) (by rfl)) (by decide) (by rfl) (fun _ _ _ _ _ => t_tp rfl (t_cons (t_nm nd (by rfl) (by first | exact Or.inl rfl | exact Or.inr rfl)) (t_cons (t_nm nd (by rfl) (by first | exact Or.inl rfl | exact Or.inr rfl)) (t_nil)))) (fun _ _ _ _ _ => q_one (ct_not (wt_tru (c_call g.f_is_rest hr hG (by rfl) (a1 (w_v 6) (a0)))))) (fun _ _ _ _ _ => c_tup (a1 (w_bin (w_v 3) (c_tup (a1 (w_v 5) (a0)))) (a1 (w_v 6) (a0)))))))) (s_nil)))))) (s_one (s_ret (w_fn (call_sortT (lt64 hu)) on_sorted boot_sorted g.b_sorted (a1 (w_v 1) (a0))))))
theorem k_part_of {F : Fns} {n : Nat} (g : G P w K mg base F n) (f : Addr) (cdv : Value) (A : Around) (outer : List PySem.Env) (s : Shared) (H : Hp) (E : XK) (hr : Room n (A.deeper (envOfC "part_of" (defScope S_part_of) s.heap.objs.size f cdv))) (hG : A.guards = some []) :
    PSs (cxOf CX0 P w K mg base N_part_of "part_of" (defScope S_part_of) f cdv A outer s H E).nox (defBody S_part_of) (rdS K (fun _ => 0) F W0 P_part_of) :=
  have nd := sc_part_of.nd
  have hu := hu65 hr
  s_seq (s_set nd (by rfl) (by first | exact Or.inl rfl | exact Or.inr rfl) (w_v 0)) (s_seq (s_for PassesOwn.never rfl (ci_of (w_v 1)) (g_nm nd (by rfl) (by first | exact Or.inl rfl | exact Or.inr rfl)) (s_one (s_set nd (by rfl) (by first | exact Or.inl rfl | exact Or.inr rfl) (w_ix hu (w_ix hu (w_v 2) (c_int)) (w_v 3))))) (s_one (s_ret (w_v 2))))
theorem k_is_path_of {F : Fns} {n : Nat} (g : G P w K mg base F n) (f : Addr) (cdv : Value) (A : Around) (outer : List PySem.Env) (s : Shared) (H : Hp) (E : XK) (hr : Room n (A.deeper (envOfC "is_path_of" (defScope S_is_path_of) s.heap.objs.size f cdv))) (hG : A.guards = some []) :
    PSs (cxOf CX0 P w K mg base N_is_path_of "is_path_of" (defScope S_is_path_of) f cdv A outer s H E).nox (defBody S_is_path_of) (rdS K (fun _ => 0) F W0 P_is_path_of) :=
  have nd := sc_is_path_of.nd
  have hu := hu65 hr
  s_seq (s_if (ct_not (wt_tru (w_isi .tuple g.b_isinstance (pe_bltn (by rfl) g.b_tuple boot_tuple rfl) (w_v 1)))) (s_one (s_ret (c_bl))) (s_nil)) (s_seq (s_set nd (by rfl) (by first | exact Or.inl rfl | exact Or.inr rfl) (w_v 0)) (s_seq (s_for PassesOwn.never rfl (ci_of (w_v 1)) (g_nm nd (by rfl) (by first | exact Or.inl rfl | exact Or.inr rfl)) (s_seq (s_if ((cw_or (ct_not (wt_tru (c_call g.f_is_applied hr hG (by rfl) (a1 (w_v 2) (a0))))) (cw_or (ct_not (wt_tru (c_call g.f_is_count hr hG (by rfl) (a1 (w_v 3) (a0))))) (cw_or1 (wt_cmp hu (w_v 3) (w_fn or_len on_len boot_len g.b_len (a1 (w_ix hu (w_v 2) (c_int)) (a0))))))).pt) (s_one (s_ret (c_bl))) (s_nil)) (s_one (s_set nd (by rfl) (by first | exact Or.inl rfl | exact Or.inr rfl) (w_ix hu (w_ix hu (w_v 2) (c_int)) (w_v 3)))))) (s_one (s_ret (c_not (c_call g.f_is_rest hr hG (by rfl) (a1 (w_v 2) (a0))))))))
theorem k_is_term {F : Fns} {n : Nat} (g : G P w K mg base F n) (f : Addr) (cdv : Value) (A : Around) (outer : List PySem.Env) (s : Shared) (H : Hp) (E : XK) (hr : Room n (A.deeper (envOfC "is_term" (defScope S_is_term) s.heap.objs.size f cdv))) (hG : A.guards = some []) :
    PSs (cxOf CX0 P w K mg base N_is_term "is_term" (defScope S_is_term) f cdv A outer s H E).nox (defBody S_is_term) (rdS K (fun _ => 0) F W0 P_is_term) :=
  have nd := sc_is_term.nd
  have hu := hu65 hr
  s_seq (s_set nd (by rfl) (by first | exact Or.inl rfl | exact Or.inr rfl) (c_call g.f_standings hr hG (by rfl) (a1 (w_v 0) (a0)))) (s_one (s_ret (c_and (w_cmp hu (w_v 1) (c_non)) (c_and1 (c_call g.f_have_one_sort hr hG (by rfl) (a1 (w_v 1) (a0)))))))
theorem k_want_term {F : Fns} {n : Nat} (g : G P w K mg base F n) (f : Addr) (cdv : Value) (A : Around) (outer : List PySem.Env) (s : Shared) (H : Hp) (E : XK) (hr : Room n (A.deeper (envOfC "want_term" (defScope S_want_term) s.heap.objs.size f cdv))) (hG : A.guards = some []) :
    PSs (cxOf CX0 P w K mg base N_want_term "want_term" (defScope S_want_term) f cdv A outer s H E).nox (defBody S_want_term) (rdS K (fun _ => 0) F W0 P_want_term) :=
  have nd := sc_want_term.nd
  have hu := hu65 hr
  s_seq (s_if (ct_not (wt_tru (c_call g.f_is_term hr hG (by rfl) (a1 (w_v 0) (a0))))) (s_one (s_never)) (s_nil)) (s_one (s_ret (w_v 0)))
theorem k_variables {F : Fns} {n : Nat} (g : G P w K mg base F n) (f : Addr) (cdv : Value) (A : Around) (outer : List PySem.Env) (s : Shared) (H : Hp) (E : XK) (hr : Room n (A.deeper (envOfC "variables" (defScope S_variables) s.heap.objs.size f cdv))) (hG : A.guards = some []) :
    PSs (cxOf CX0 P w K mg base N_variables "variables" (defScope S_variables) f cdv A outer s H E).nox (defBody S_variables) (rdS K (fun _ => 0) F W0 P_variables) :=
  have nd := sc_variables.nd
  have hu := hu65 hr
  s_one (s_ret (c_call g.f_variables_of hr hG (by rfl) (a1 (c_call g.f_want_term hr hG (by rfl) (a1 (w_v 0) (a0))) (a0))))
theorem k_nodes {F : Fns} {n : Nat} (g : G P w K mg base F n) (f : Addr) (cdv : Value) (A : Around) (outer : List PySem.Env) (s : Shared) (H : Hp) (E : XK) (hr : Room n (A.deeper (envOfC "nodes" (defScope S_nodes) s.heap.objs.size f cdv))) (hG : A.guards = some []) :
    PSs (cxOf CX0 P w K mg base N_nodes "nodes" (defScope S_nodes) f cdv A outer s H E).nox (defBody S_nodes) (rdS K (fun _ => 0) F W0 P_nodes) :=
  have nd := sc_nodes.nd
  have hu := hu65 hr
  s_one (s_ret (c_call g.f_nodes_of hr hG (by rfl) (a1 (c_call g.f_want_term hr hG (by rfl) (a1 (w_v 0) (a0))) (a0))))
theorem k_depth {F : Fns} {n : Nat} (g : G P w K mg base F n) (f : Addr) (cdv : Value) (A : Around) (outer : List PySem.Env) (s : Shared) (H : Hp) (E : XK) (hr : Room n (A.deeper (envOfC "depth" (defScope S_depth) s.heap.objs.size f cdv))) (hG : A.guards = some []) :
    PSs (cxOf CX0 P w K mg base N_depth "depth" (defScope S_depth) f cdv A outer s H E).nox (defBody S_depth) (rdS K (fun _ => 0) F W0 P_depth) :=
  have nd := sc_depth.nd
  have hu := hu65 hr
  s_one (s_ret (c_call g.f_depth_of hr hG (by rfl) (a1 (c_call g.f_want_term hr hG (by rfl) (a1 (w_v 0) (a0))) (a0))))
theorem k_paths {F : Fns} {n : Nat} (g : G P w K mg base F n) (f : Addr) (cdv : Value) (A : Around) (outer : List PySem.Env) (s : Shared) (H : Hp) (E : XK) (hr : Room n (A.deeper (envOfC "paths" (defScope S_paths) s.heap.objs.size f cdv))) (hG : A.guards = some []) :
    PSs (cxOf CX0 P w K mg base N_paths "paths" (defScope S_paths) f cdv A outer s H E).nox (defBody S_paths) (rdS K (fun _ => 0) F W0 P_paths) :=
  have nd := sc_paths.nd
  have hu := hu65 hr
  s_one (s_ret (c_call g.f_paths_of hr hG (by rfl) (a1 (c_call g.f_want_term hr hG (by rfl) (a1 (w_v 0) (a0))) (a0))))
theorem k_part_at {F : Fns} {n : Nat} (g : G P w K mg base F n) (f : Addr) (cdv : Value) (A : Around) (outer : List PySem.Env) (s : Shared) (H : Hp) (E : XK) (hr : Room n (A.deeper (envOfC "part_at" (defScope S_part_at) s.heap.objs.size f cdv))) (hG : A.guards = some []) :
    PSs (cxOf CX0 P w K mg base N_part_at "part_at" (defScope S_part_at) f cdv A outer s H E).nox (defBody S_part_at) (rdS K (fun _ => 0) F W0 P_part_at) :=
  have nd := sc_part_at.nd
  have hu := hu65 hr
  s_seq (s_if (ct_not (wt_tru (c_call g.f_is_path_of hr hG (by rfl) (a1 (c_call g.f_want_term hr hG (by rfl) (a1 (w_v 0) (a0))) (a1 (w_v 1) (a0)))))) (s_one (s_never)) (s_nil)) (s_one (s_ret (c_call g.f_part_of hr hG (by rfl) (a1 (w_v 0) (a1 (w_v 1) (a0))))))
theorem k__law_pot {F : Fns} {n : Nat} (g : G P w K mg base F n) (f : Addr) (cdv : Value) (A : Around) (outer : List PySem.Env) (s : Shared) (H : Hp) (E : XK) (hr : Room n (A.deeper (envOfC "_law_pot" (defScope S__law_pot) s.heap.objs.size f cdv))) (hG : A.guards = some []) :
    PSs (cxOf CX0 P w K mg base N__law_pot "_law_pot" (defScope S__law_pot) f cdv A outer s H E).nox (defBody S__law_pot) (rdS K (fun _ => 0) F W0 P__law_pot) :=
  have nd := sc__law_pot.nd
  have hu := hu65 hr
  s_seq (s_set nd (by rfl) (by first | exact Or.inl rfl | exact Or.inr rfl) (c_if (wt_cmp hu (w_v 1) (w_fn or_len on_len boot_len g.b_len (a1 (w_v 0) (a0)))) (w_fn call_abs on_abs boot_abs g.b_abs (a1 (w_ix hu (w_v 0) (w_v 1)) (a0))) (w_bin (w_bin (c_int) (w_v 1)) (c_int)))) (s_one (s_ret (c_lst (a1 (w_fn (or_max rfl) on_max boot_max g.b_max (a1 (c_int) (a1 (w_bin (w_v 2) (w_bin (c_int) (c_int))) (a0)))) (a1 (w_bin (w_bin (w_ty call_int1 on_int boot_int g.b_int (a1 (w_bin (w_bin (w_bin (w_bin (w_ty call_int1 on_int boot_int g.b_int (a1 (w_v 2) (a0))) (c_int)) (c_int)) (w_bin (c_int) (w_v 1))) (c_int)) (a0))) (c_int)) (c_int)) (a0))))))
theorem k__law_draw {F : Fns} {n : Nat} (g : G P w K mg base F n) (f : Addr) (cdv : Value) (A : Around) (outer : List PySem.Env) (s : Shared) (H : Hp) (E : XK) (hr : Room n (A.deeper (envOfC "_law_draw" (defScope S__law_draw) s.heap.objs.size f cdv))) (hG : A.guards = some []) :
    PSs (cxOf CX0 P w K mg base N__law_draw "_law_draw" (defScope S__law_draw) f cdv A outer s H E).nox (defBody S__law_draw) (rdS K (fun _ => 0) F W0 P__law_draw) :=
  have nd := sc__law_draw.nd
  have hu := hu65 hr
  s_seq (s_if (wt_cmp hu (w_ix hu (w_v 0) (c_int)) (c_int)) (s_seq (s_asg (w_fn call_divmod on_divmod boot_divmod g.b_divmod (a1 (w_ix hu (w_v 0) (c_int)) (a1 (w_v 1) (a0)))) (g_tp rfl (gs_cons (g_sb (lt1 hu) (w_v 0) (c_int)) (gs_cons (g_nm nd (by rfl) (by first | exact Or.inl rfl | exact Or.inr rfl)) (gs_nil))))) (s_one (s_ret (w_v 2)))) (s_nil)) (s_seq (s_asg (w_bin (w_ty call_int1 on_int boot_int g.b_int (a1 (w_bin (w_bin (w_ix hu (w_v 0) (c_int)) (c_int)) (c_int)) (a0))) (c_int)) (g_sb (lt1 hu) (w_v 0) (c_int))) (s_one (s_ret (w_bin (w_ty call_int1 on_int boot_int g.b_int (a1 (w_bin (w_bin (w_ty call_int1 on_int boot_int g.b_int (a1 (w_bin (w_ix hu (w_v 0) (c_int)) (w_ix hu (w_v 0) (c_int))) (a0))) (c_int)) (c_int)) (a0))) (w_v 1)))))
theorem k__law_pick {F : Fns} {n : Nat} (g : G P w K mg base F n) (f : Addr) (cdv : Value) (A : Around) (outer : List PySem.Env) (s : Shared) (H : Hp) (E : XK) (hr : Room n (A.deeper (envOfC "_law_pick" (defScope S__law_pick) s.heap.objs.size f cdv))) (hG : A.guards = some []) :
    PSs (cxOf CX0 P w K mg base N__law_pick "_law_pick" (defScope S__law_pick) f cdv A outer s H E).nox (defBody S__law_pick) (rdS K (fun _ => 0) F W0 P__law_pick) :=
  have nd := sc__law_pick.nd
  have hu := hu65 hr
  s_one (s_ret (w_ix hu (w_v 1) (c_call g.f__law_draw hr hG (by rfl) (a1 (w_v 0) (a1 (w_fn or_len on_len boot_len g.b_len (a1 (w_v 1) (a0))) (a0))))))
theorem k__law_term {F : Fns} {n : Nat} (g : G P w K mg base F n) (f : Addr) (cdv : Value) (A : Around) (outer : List PySem.Env) (s : Shared) (H : Hp) (E : XK) (hr : Room n (A.deeper (envOfC "_law_term" (defScope S__law_term) s.heap.objs.size f cdv))) (hG : A.guards = some []) :
    PSs (cxOf CX0 P w K mg base N__law_term "_law_term" (defScope S__law_term) f cdv A outer s H E).nox (defBody S__law_term) (rdS K (fun _ => 0) F W0 P__law_term) :=
  have nd := sc__law_term.nd
  have hu := hu65 hr
  s_seq (s_set nd (by rfl) (by first | exact Or.inl rfl | exact Or.inr rfl) (c_call g.f__law_draw hr hG (by rfl) (a1 (w_v 0) (a1 (c_int) (a0))))) (s_seq (s_if ((cw_or (wt_cmp hu (w_v 1) (c_int)) (cw_or1 (wt_cmp hu (w_v 2) (c_int)))).pt) (s_one (s_ret (c_call g.f__law_pick hr hG (by rfl) (a1 (w_v 0) (a1 (c_lst (a1 (c_str) (a1 (c_str) (a1 (c_str) (a1 (c_str) (a1 (c_int) (a1 (c_neg (c_int)) (a1 (c_int) (a1 (c_tup (a1 (c_str) (a1 (c_tup (a0)) (a0)))) (a1 (c_tup (a1 (c_str) (a1 (c_tup (a0)) (a0)))) (a0))))))))))) (a0)))))) (s_nil)) (s_seq (s_lc rfl nd (by rfl) (by rfl) (sw_true (by rfl) (by rfl) (by rfl) (by rfl)) (w_r1 g.b_range (c_call g.f__law_draw hr hG (by rfl) (a1 (w_v 0) (a1 (c_int) (a0))))) (blkOk_by (own := [("turn", 4)]) (by rfl)) (by decide) (by rfl) (fun _ _ _ _ _ => t_nm nd (by rfl) (by first | exact Or.inl rfl | exact Or.inr rfl)) (fun _ _ _ _ _ => q_yes) (fun _ _ _ _ _ => c_call g.f__law_term hr hG (by rfl) (a1 (w_v 0) (a1 (w_bin (w_v 1) (c_int)) (a0))))) (s_seq (s_if (wt_cmp hu (c_call g.f__law_draw hr hG (by rfl) (a1 (w_v 0) (a1 (c_int) (a0)))) (c_int)) (s_one (s_drop (c_append (w_v 3) (c_call g.f__law_pick hr hG (by rfl) (a1 (w_v 0) (a1 (c_lst (a1 (c_str) (a1 (c_str) (a1 (c_str) (a0))))) (a0))))))) (s_nil)) (s_one (s_ret (c_tup (a1 (c_call g.f__law_pick hr hG (by rfl) (a1 (w_v 0) (a1 (c_lst (a1 (c_str) (a1 (c_str) (a1 (c_str) (a1 (c_str) (a1 (c_str) (a0))))))) (a0)))) (a1 (w_ty call_tuple_of on_tuple boot_tuple g.b_tuple (a1 (w_v 3) (a0))) (a0)))))))))
theorem k__law_great {F : Fns} {n : Nat} (g : G P w K mg base F n) (f : Addr) (cdv : Value) (A : Around) (outer : List PySem.Env) (s : Shared) (H : Hp) (E : XK) (hr : Room n (A.deeper (envOfC "_law_great" (defScope S__law_great) s.heap.objs.size f cdv))) (hG : A.guards = some []) :
    PSs (cxOf CX0 P w K mg base N__law_great "_law_great" (defScope S__law_great) f cdv A outer s H E).nox (defBody S__law_great) (rdS K (fun _ => 0) F W0 P__law_great) :=
  have nd := sc__law_great.nd
  have hu := hu65 hr
  s_seq (s_set nd (by rfl) (by first | exact Or.inl rfl | exact Or.inr rfl) (c_call g.f__law_term hr hG (by rfl) (a1 (w_v 0) (a1 (c_int) (a0))))) (s_seq (s_for PassesOwn.never rfl (w_r1 g.b_range (w_bin (c_int) (c_call g.f__law_draw hr hG (by rfl) (a1 (w_v 0) (a1 (c_int) (a0)))))) (g_nm nd (by rfl) (by first | exact Or.inl rfl | exact Or.inr rfl)) (s_seq (s_lc rfl nd (by rfl) (by rfl) (sw_true (by rfl) (by rfl) (by rfl) (by rfl)) (w_r1 g.b_range (c_call g.f__law_draw hr hG (by rfl) (a1 (w_v 0) (a1 (c_int) (a0))))) (blkOk_by (own := [("late", 4)]) (by rfl)) (by decide) (by rfl) (fun _ _ _ _ _ => t_nm nd (by rfl) (by first | exact Or.inl rfl | exact Or.inr rfl)) (fun _ _ _ _ _ => q_yes) (fun _ _ _ _ _ => c_call g.f__law_term hr hG (by rfl) (a1 (w_v 0) (a1 (c_int) (a0))))) (s_seq (s_drop (c_insert (w_v 3) (c_call g.f__law_draw hr hG (by rfl) (a1 (w_v 0) (a1 (w_bin (w_fn or_len on_len boot_len g.b_len (a1 (w_v 3) (a0))) (c_int)) (a0)))) (w_v 1))) (s_seq (s_if (wt_cmp hu (c_call g.f__law_draw hr hG (by rfl) (a1 (w_v 0) (a1 (c_int) (a0)))) (c_int)) (s_one (s_drop (c_append (w_v 3) (c_call g.f__law_pick hr hG (by rfl) (a1 (w_v 0) (a1 (c_lst (a1 (c_str) (a1 (c_str) (a1 (c_str) (a0))))) (a0))))))) (s_nil)) (s_one (s_set nd (by rfl) (by first | exact Or.inl rfl | exact Or.inr rfl) (c_tup (a1 (c_call g.f__law_pick hr hG (by rfl) (a1 (w_v 0) (a1 (c_lst (a1 (c_str) (a1 (c_str) (a1 (c_str) (a1 (c_str) (a1 (c_str) (a0))))))) (a0)))) (a1 (w_ty call_tuple_of on_tuple boot_tuple g.b_tuple (a1 (w_v 3) (a0))) (a0)))))))))) (s_one (s_ret (w_v 1))))
theorem k__law_is_rest {F : Fns} {n : Nat} (g : G P w K mg base F n) (f : Addr) (cdv : Value) (A : Around) (outer : List PySem.Env) (s : Shared) (H : Hp) (E : XK) (hr : Room n (A.deeper (envOfC "_law_is_rest" (defScope S__law_is_rest) s.heap.objs.size f cdv))) (hG : A.guards = some []) :
    PSs (cxOf CX0 P w K mg base N__law_is_rest "_law_is_rest" (defScope S__law_is_rest) f cdv A outer s H E).nox (defBody S__law_is_rest) (rdS K (fun _ => 0) F W0 P__law_is_rest) :=
  have nd := sc__law_is_rest.nd
  have hu := hu65 hr
  s_one (s_ret (c_and (w_isi .str g.b_isinstance (pe_bltn (by rfl) g.b_str boot_str rfl) (w_v 0)) (c_and1 (w_cmp hu (w_ix hu (w_v 0) (c_int)) (c_str)))))
theorem k__law_rows {F : Fns} {n : Nat} (g : G P w K mg base F n) (f : Addr) (cdv : Value) (A : Around) (outer : List PySem.Env) (s : Shared) (H : Hp) (E : XK) (hr : Room n (A.deeper (envOfC "_law_rows" (defScope S__law_rows) s.heap.objs.size f cdv))) (hG : A.guards = some []) :
    PSs (cxOf CX0 P w K mg base N__law_rows "_law_rows" (defScope S__law_rows) f cdv A outer s H E).nox (defBody S__law_rows) (rdS K (fun _ => 0) F W0 P__law_rows) :=
  have nd := sc__law_rows.nd
  have hu := hu65 hr
  s_seq (s_par rfl nd (by rfl) (by rfl) (by decide) (by rfl) (by rfl) (c_lst (a1 (c_tup (a1 (c_tup (a0)) (a1 (w_v 0) (a0)))) (a0))) (c_int) (by rfl)) (s_seq (s_while PassesOwn.never (wt_cmp hu (w_v 2) (w_fn or_len on_len boot_len g.b_len (a1 (w_v 1) (a0)))) (s_seq (s_asg (w_ix hu (w_v 1) (w_v 2)) (g_tp rfl (gs_cons (g_nm nd (by rfl) (by first | exact Or.inl rfl | exact Or.inr rfl)) (gs_cons (g_nm nd (by rfl) (by first | exact Or.inl rfl | exact Or.inr rfl)) (gs_nil))))) (s_seq (s_if (wt_tru (w_isi .tuple g.b_isinstance (pe_bltn (by rfl) g.b_tuple boot_tuple rfl) (w_v 4))) (s_seq (s_lc rfl nd (by rfl) (by rfl) (sw_true (by rfl) (by rfl) (by rfl) (by rfl)) (ci_enum (by rfl) g.b_enumerate (w_ix hu (w_v 4) (c_int))) (blkOk_by (own := [("place", 6), ("arg", 7)]) (by rfl)) (by decide) (by rfl) (fun _ _ _ _ _ => t_tp rfl (t_cons (t_nm nd (by rfl) (by first | exact Or.inl rfl | exact Or.inr rfl)) (t_cons (t_nm nd (by rfl) (by first | exact Or.inl rfl | exact Or.inr rfl)) (t_nil)))) (fun _ _ _ _ _ => q_yes) (fun _ _ _ _ _ => c_tup (a1 (w_bin (w_v 3) (c_tup (a1 (w_v 6) (a0)))) (a1 (w_v 7) (a0))))) (s_one (s_set nd (by rfl) (by first | exact Or.inl rfl | exact Or.inr rfl) (w_bin (w_bin (c_sl (w_v 1) (co_none) (co_some (w_bin (w_v 2) (c_int)))) (w_v 5)) (c_sl (w_v 1) (co_some (w_bin (w_v 2) (c_int))) (co_none)))))) (s_nil)) (s_one (s_set nd (by rfl) (by first | exact Or.inl rfl | exact Or.inr rfl) (w_bin (w_v 2) (c_int))))))) (s_one (s_ret (w_v 1))))
theorem k__law_depth {F : Fns} {n : Nat} (g : G P w K mg base F n) (f : Addr) (cdv : Value) (A : Around) (outer : List PySem.Env) (s : Shared) (H : Hp) (E : XK) (hr : Room n (A.deeper (envOfC "_law_depth" (defScope S__law_depth) s.heap.objs.size f cdv))) (hG : A.guards = some []) :
    PSs (cxOf CX0 P w K mg base N__law_depth "_law_depth" (defScope S__law_depth) f cdv A outer s H E).nox (defBody S__law_depth) (rdS K (fun _ => 0) F W0 P__law_depth) :=
  have nd := sc__law_depth.nd
  have hu := hu65 hr
  s_seq (s_if (ct_not (wt_tru (w_isi .tuple g.b_isinstance (pe_bltn (by rfl) g.b_tuple boot_tuple rfl) (w_v 0)))) (s_one (s_ret (c_int))) (s_nil)) (s_one (s_ret (w_bin (c_int) (w_fn (or_max rfl) on_max boot_max g.b_max (a1 (w_bin (c_lst (a1 (c_int) (a0))) (c_lc rfl nd (ci_of (w_ix hu (w_v 0) (c_int))) (blkOk_by (own := [("arg", 1)]) (by rfl)) (by decide) (by rfl) (fun _ _ _ _ _ => t_nm nd (by rfl) (by first | exact Or.inl rfl | exact Or.inr rfl)) (fun _ _ _ _ _ => q_yes) (fun _ _ _ _ _ => c_call g.f__law_depth hr hG (by rfl) (a1 (w_v 1) (a0))))) (a0))))))
theorem k__law_variables {F : Fns} {n : Nat} (g : G P w K mg base F n) (f : Addr) (cdv : Value) (A : Around) (outer : List PySem.Env) (s : Shared) (H : Hp) (E : XK) (hr : Room n (A.deeper (envOfC "_law_variables" (defScope S__law_variables) s.heap.objs.size f cdv))) (hG : A.guards = some []) :
    PSs (cxOf CX0 P w K mg base N__law_variables "_law_variables" (defScope S__law_variables) f cdv A outer s H E).nox (defBody S__law_variables) (rdS K (fun _ => 0) F W0 P__law_variables) :=
  have nd := sc__law_variables.nd
  have hu := hu65 hr
  s_seq (s_set nd (by rfl) (by first | exact Or.inl rfl | exact Or.inr rfl) (c_lst (a0))) (s_seq (s_for PassesOwn.never rfl (ci_of (w_v 0)) (g_tp rfl (gs_cons (g_nm nd (by rfl) (by first | exact Or.inl rfl | exact Or.inr rfl)) (gs_cons (g_nm nd (by rfl) (by first | exact Or.inl rfl | exact Or.inr rfl)) (gs_nil)))) (s_seq (s_if (wt_tru (c_call g.f__law_is_rest hr hG (by rfl) (a1 (w_v 3) (a0)))) (s_one (s_set nd (by rfl) (by first | exact Or.inl rfl | exact Or.inr rfl) (c_tup (a1 (c_str) (a1 (c_sl (w_v 3) (co_some (c_int)) (co_none)) (a0)))))) (s_one (s_if (wt_tru (w_isi .str g.b_isinstance (pe_bltn (by rfl) g.b_str boot_str rfl) (w_v 3))) (s_one (s_set nd (by rfl) (by first | exact Or.inl rfl | exact Or.inr rfl) (c_tup (a1 (c_str) (a1 (w_v 3) (a0)))))) (s_one (s_if ((cw_and (wt_tru (w_isi .tuple g.b_isinstance (pe_bltn (by rfl) g.b_tuple boot_tuple rfl) (w_v 3))) (cw_and1 (wt_cmp hu (w_ix hu (w_ix hu (w_v 3) (c_int)) (c_int)) (c_str)))).pt) (s_one (s_set nd (by rfl) (by first | exact Or.inl rfl | exact Or.inr rfl) (c_tup (a1 (c_str) (a1 (w_ix hu (w_v 3) (c_int)) (a0)))))) (s_one (s_set nd (by rfl) (by first | exact Or.inl rfl | exact Or.inr rfl) (c_non)))))))) (s_one (s_if ((cw_and (wt_cmp hu (w_v 4) (c_non)) (cw_and1 (wt_cmp hu (w_v 4) (w_v 1)))).pt) (s_one (s_drop (c_append (w_v 1) (w_v 4)))) (s_nil))))) (s_one (s_ret (w_v 1))))
theorem k__law_some {F : Fns} {n : Nat} (g : G P w K mg base F n) (f : Addr) (cdv : Value) (A : Around) (outer : List PySem.Env) (s : Shared) (H : Hp) (E : XK) (hr : Room n (A.deeper (envOfC "_law_some" (defScope S__law_some) s.heap.objs.size f cdv))) (hG : A.guards = some []) :
    PSs (cxOf CX0 P w K mg base N__law_some "_law_some" (defScope S__law_some) f cdv A outer s H E).nox (defBody S__law_some) (rdS K (fun _ => 0) F W0 P__law_some) :=
  have nd := sc__law_some.nd
  have hu := hu65 hr
  s_one (s_ret (c_if (wt_cmp hu (w_fn or_len on_len boot_len g.b_len (a1 (w_v 1) (a0))) (w_v 2)) (w_v 1) (c_lc rfl nd (w_r1 g.b_range (w_v 2)) (blkOk_by (own := [("turn", 3)]) (by rfl)) (by decide) (by rfl) (fun _ _ _ _ _ => t_nm nd (by rfl) (by first | exact Or.inl rfl | exact Or.inr rfl)) (fun _ _ _ _ _ => q_yes) (fun _ _ _ _ _ => w_ix hu (w_v 1) (w_bin (c_call g.f__law_draw hr hG (by rfl) (a1 (w_v 0) (a1 (c_int) (a0)))) (w_fn or_len on_len boot_len g.b_len (a1 (w_v 1) (a0))))))))
theorem k__law_within_right {F : Fns} {n : Nat} (g : G P w K mg base F n) (f : Addr) (cdv : Value) (A : Around) (outer : List PySem.Env) (s : Shared) (H : Hp) (E : XK) (hr : Room n (A.deeper (envOfC "_law_within_right" (defScope S__law_within_right) s.heap.objs.size f cdv))) (hG : A.guards = some []) :
    PSs (cxOf CX0 P w K mg base N__law_within_right "_law_within_right" (defScope S__law_within_right) f cdv A outer s H E).nox (defBody S__law_within_right) (rdS K (fun _ => 0) F W0 P__law_within_right) :=
  have nd := sc__law_within_right.nd
  have hu := hu65 hr
  s_seq (s_set nd (by rfl) (by first | exact Or.inl rfl | exact Or.inr rfl) (c_callKz g.f_part_at 2 [1, 0] hr hG (by rfl) (fun _ _ F => Fun.kbinds (ps := ["term", "path"]) (ks := ["path", "term"]) F 0 2 [1, 0] rfl fun _ _ _ _ _ _ us ws h1 h2 => match us, ws, h1, h2 with | [], [b0, b1], _, _ => rfl) (ck_cons (w_v 2) (ck_cons (w_v 1) (ck_nil))))) (s_seq (s_for PassesOwn.never rfl (ci_of (c_call g.f__law_some hr hG (by rfl) (a1 (w_v 0) (a1 (c_call g.f_paths hr hG (by rfl) (a1 (w_v 3) (a0))) (a1 (c_int) (a0)))))) (g_nm nd (by rfl) (by first | exact Or.inl rfl | exact Or.inr rfl)) (s_one (s_if (wt_cmp hu (c_call g.f_part_at hr hG (by rfl) (a1 (w_v 3) (a1 (w_v 4) (a0)))) (c_call g.f_part_at hr hG (by rfl) (a1 (w_v 1) (a1 (w_bin (w_v 2) (w_v 4)) (a0))))) (s_one (s_ret (c_bl))) (s_nil)))) (s_one (s_ret (c_and (w_cmp hu (c_call g.f_nodes hr hG (by rfl) (a1 (w_v 3) (a0))) (w_bin (c_call g.f_nodes hr hG (by rfl) (a1 (w_v 1) (a0))) (w_fn or_len on_len boot_len g.b_len (a1 (w_v 2) (a0))))) (c_and1 (w_cmp hu (c_call g.f_depth hr hG (by rfl) (a1 (w_v 3) (a0))) (w_bin (c_call g.f_depth hr hG (by rfl) (a1 (w_v 1) (a0))) (w_fn or_len on_len boot_len g.b_len (a1 (w_v 2) (a0))))))))))
theorem k_law {F : Fns} {n : Nat} (g : G P w K mg base F n) (f : Addr) (cdv : Value) (A : Around) (outer : List PySem.Env) (s : Shared) (H : Hp) (E : XK) (hr : Room n (A.deeper (envOfC "law" (defScope S_law) s.heap.objs.size f cdv))) (hG : A.guards = some []) :
    PSs (cxOf CX0 P w K mg base N_law "law" (defScope S_law) f cdv A outer s H E).nox (defBody S_law) (rdS K (fun _ => 0) F W0 P_law) :=
  have nd := sc_law.nd
  have hu := hu65 hr
  s_seq (s_set nd (by rfl) (by first | exact Or.inl rfl | exact Or.inr rfl) (c_call g.f__law_pot hr hG (by rfl) (a1 (w_v 0) (a1 (c_int) (a0))))) (s_seq (s_set nd (by rfl) (by first | exact Or.inl rfl | exact Or.inr rfl) (c_if (wt_cmp hu (c_call g.f__law_draw hr hG (by rfl) (a1 (w_v 1) (a1 (c_int) (a0)))) (c_int)) (c_call g.f__law_great hr hG (by rfl) (a1 (w_v 1) (a0))) (c_call g.f__law_term hr hG (by rfl) (a1 (w_v 1) (a1 (w_bin (c_int) (c_call g.f__law_draw hr hG (by rfl) (a1 (w_v 1) (a1 (c_int) (a0))))) (a0)))))) (s_seq (s_set nd (by rfl) (by first | exact Or.inl rfl | exact Or.inr rfl) (c_call g.f__law_rows hr hG (by rfl) (a1 (w_v 2) (a0)))) (s_seq (s_set nd (by rfl) (by first | exact Or.inl rfl | exact Or.inr rfl) (w_fn (call_sortT (lt64 hu)) on_sorted boot_sorted g.b_sorted (a1 (c_lc rfl nd (ci_of (w_v 3)) (blkOk_by (own := [("path", 8), ("one", 9)]) (by rfl)) (by decide) (by rfl) (fun _ _ _ _ _ => t_tp rfl (t_cons (t_nm nd (by rfl) (by first | exact Or.inl rfl | exact Or.inr rfl)) (t_cons (t_nm nd (by rfl) (by first | exact Or.inl rfl | exact Or.inr rfl)) (t_nil)))) (fun _ _ _ _ _ => q_one (ct_not (wt_tru (c_call g.f__law_is_rest hr hG (by rfl) (a1 (w_v 9) (a0)))))) (fun _ _ _ _ _ => w_v 8)) (a0)))) (s_seq (s_par rfl nd (by rfl) (by rfl) (by decide) (by rfl) (by rfl) (c_call g.f_paths hr hG (by rfl) (a1 (w_v 2) (a0))) (c_callKz g.f_variables 1 [0] hr hG (by rfl) (fun _ _ F => Fun.kbinds (ps := ["term"]) (ks := ["term"]) F 0 1 [0] rfl fun _ _ _ _ _ _ us ws h1 h2 => match us, ws, h1, h2 with | [], [b0], _, _ => rfl) (ck_cons (w_v 2) (ck_nil))) (by rfl)) (s_seq (s_if ((cw_or (wt_cmp hu (w_fn (call_reprD hG (hu152 hr)) on_repr boot_repr g.b_repr (a1 (w_v 5) (a0))) (w_fn (call_reprD hG (hu152 hr)) on_repr boot_repr g.b_repr (a1 (w_v 4) (a0)))) (cw_or1 (wt_cmp hu (w_fn (call_reprD hG (hu152 hr)) on_repr boot_repr g.b_repr (a1 (w_v 6) (a0))) (w_fn (call_reprD hG (hu152 hr)) on_repr boot_repr g.b_repr (a1 (c_call g.f__law_variables hr hG (by rfl) (a1 (w_v 3) (a0))) (a0)))))).pt) (s_one (s_ret (c_bl))) (s_nil)) (s_seq (s_if (wt_cmp hu (w_fn (call_reprD hG (hu152 hr)) on_repr boot_repr g.b_repr (a1 (c_lst (a1 (c_callKz g.f_nodes 1 [0] hr hG (by rfl) (fun _ _ F => Fun.kbinds (ps := ["term"]) (ks := ["term"]) F 0 1 [0] rfl fun _ _ _ _ _ _ us ws h1 h2 => match us, ws, h1, h2 with | [], [b0], _, _ => rfl) (ck_cons (w_v 2) (ck_nil))) (a1 (c_callKz g.f_depth 1 [0] hr hG (by rfl) (fun _ _ F => Fun.kbinds (ps := ["term"]) (ks := ["term"]) F 0 1 [0] rfl fun _ _ _ _ _ _ us ws h1 h2 => match us, ws, h1, h2 with | [], [b0], _, _ => rfl) (ck_cons (w_v 2) (ck_nil))) (a0)))) (a0))) (w_fn (call_reprD hG (hu152 hr)) on_repr boot_repr g.b_repr (a1 (c_lst (a1 (w_fn or_len on_len boot_len g.b_len (a1 (w_v 3) (a0))) (a1 (c_call g.f__law_depth hr hG (by rfl) (a1 (w_v 2) (a0))) (a0)))) (a0)))) (s_one (s_ret (c_bl))) (s_nil)) (s_seq (s_set nd (by rfl) (by first | exact Or.inl rfl | exact Or.inr rfl) (c_call g.f__law_some hr hG (by rfl) (a1 (w_v 1) (a1 (c_lc rfl nd (ci_of (w_v 3)) (blkOk_by (own := [("path", 8), ("one", 9)]) (by rfl)) (by decide) (by rfl) (fun _ _ _ _ _ => t_tp rfl (t_cons (t_nm nd (by rfl) (by first | exact Or.inl rfl | exact Or.inr rfl)) (t_cons (t_nm nd (by rfl) (by first | exact Or.inl rfl | exact Or.inr rfl)) (t_nil)))) (fun _ _ _ _ _ => q_one (ct_not (wt_tru (c_call g.f__law_is_rest hr hG (by rfl) (a1 (w_v 9) (a0)))))) (fun _ _ _ _ _ => c_tup (a1 (w_v 8) (a1 (w_v 9) (a0))))) (a1 (c_int) (a0)))))) (s_seq (s_if (wt_cmp hu (w_fn (call_reprD hG (hu152 hr)) on_repr boot_repr g.b_repr (a1 (c_lc rfl nd (ci_of (w_v 7)) (blkOk_by (own := [("path", 8), ("one", 9)]) (by rfl)) (by decide) (by rfl) (fun _ _ _ _ _ => t_tp rfl (t_cons (t_nm nd (by rfl) (by first | exact Or.inl rfl | exact Or.inr rfl)) (t_cons (t_nm nd (by rfl) (by first | exact Or.inl rfl | exact Or.inr rfl)) (t_nil)))) (fun _ _ _ _ _ => q_yes) (fun _ _ _ _ _ => c_call g.f_part_at hr hG (by rfl) (a1 (w_v 2) (a1 (w_v 8) (a0))))) (a0))) (w_fn (call_reprD hG (hu152 hr)) on_repr boot_repr g.b_repr (a1 (c_lc rfl nd (ci_of (w_v 7)) (blkOk_by (own := [("path", 8), ("one", 9)]) (by rfl)) (by decide) (by rfl) (fun _ _ _ _ _ => t_tp rfl (t_cons (t_nm nd (by rfl) (by first | exact Or.inl rfl | exact Or.inr rfl)) (t_cons (t_nm nd (by rfl) (by first | exact Or.inl rfl | exact Or.inr rfl)) (t_nil)))) (fun _ _ _ _ _ => q_yes) (fun _ _ _ _ _ => w_v 9)) (a0)))) (s_one (s_ret (c_bl))) (s_nil)) (s_seq (s_drop (c_append (w_v 5) (c_non))) (s_seq (s_drop (c_append (w_v 6) (c_non))) (s_seq (s_if ((cw_or (wt_cmp hu (c_call g.f_paths hr hG (by rfl) (a1 (w_v 2) (a0))) (w_v 4)) (cw_or1 (wt_cmp hu (c_call g.f_variables hr hG (by rfl) (a1 (w_v 2) (a0))) (c_call g.f__law_variables hr hG (by rfl) (a1 (w_v 3) (a0)))))).pt) (s_one (s_ret (c_bl))) (s_nil)) (s_one (s_ret (c_call g.f__law_within_right hr hG (by rfl) (a1 (w_v 1) (a1 (w_v 2) (a1 (w_ix hu (w_v 4) (w_bin (c_call g.f__law_draw hr hG (by rfl) (a1 (w_v 1) (a1 (c_int) (a0)))) (w_fn or_len on_len boot_len g.b_len (a1 (w_v 4) (a0))))) (a0))))))))))))))))))
theorem g_all (gc : GC mg)
    (h_is_integer : ∃ (f : Addr) (fd : FuncData), Fun K "is_integer" "is_integer" S_is_integer f fd ∧ mg "is_integer" = some (.ref f) ∧ Binds K fd ["value"] [])
    (h_is_count : ∃ (f : Addr) (fd : FuncData), Fun K "is_count" "is_count" S_is_count f fd ∧ mg "is_count" = some (.ref f) ∧ Binds K fd ["value"] [])
    (h_is_name : ∃ (f : Addr) (fd : FuncData), Fun K "is_name" "is_name" S_is_name f fd ∧ mg "is_name" = some (.ref f) ∧ Binds K fd ["value"] [])
    (h_is_variable : ∃ (f : Addr) (fd : FuncData), Fun K "is_variable" "is_variable" S_is_variable f fd ∧ mg "is_variable" = some (.ref f) ∧ Binds K fd ["value"] [])
    (h_is_head : ∃ (f : Addr) (fd : FuncData), Fun K "is_head" "is_head" S_is_head f fd ∧ mg "is_head" = some (.ref f) ∧ Binds K fd ["value"] [])
    (h_is_rest : ∃ (f : Addr) (fd : FuncData), Fun K "is_rest" "is_rest" S_is_rest f fd ∧ mg "is_rest" = some (.ref f) ∧ Binds K fd ["value"] [])
    (h_is_applied : ∃ (f : Addr) (fd : FuncData), Fun K "is_applied" "is_applied" S_is_applied f fd ∧ mg "is_applied" = some (.ref f) ∧ Binds K fd ["value"] [])
    (h_standings : ∃ (f : Addr) (fd : FuncData), Fun K "standings" "standings" S_standings f fd ∧ mg "standings" = some (.ref f) ∧ Binds K fd ["value"] [])
    (h_have_one_sort : ∃ (f : Addr) (fd : FuncData), Fun K "have_one_sort" "have_one_sort" S_have_one_sort f fd ∧ mg "have_one_sort" = some (.ref f) ∧ Binds K fd ["found"] [])
    (h_pieces : ∃ (f : Addr) (fd : FuncData), Fun K "pieces" "pieces" S_pieces f fd ∧ mg "pieces" = some (.ref f) ∧ Binds K fd ["term"] [])
    (h_variables_of : ∃ (f : Addr) (fd : FuncData), Fun K "variables_of" "variables_of" S_variables_of f fd ∧ mg "variables_of" = some (.ref f) ∧ Binds K fd ["term"] [])
    (h_nodes_of : ∃ (f : Addr) (fd : FuncData), Fun K "nodes_of" "nodes_of" S_nodes_of f fd ∧ mg "nodes_of" = some (.ref f) ∧ Binds K fd ["term"] [])
    (h_depth_of : ∃ (f : Addr) (fd : FuncData), Fun K "depth_of" "depth_of" S_depth_of f fd ∧ mg "depth_of" = some (.ref f) ∧ Binds K fd ["term"] [])
    (h_paths_of : ∃ (f : Addr) (fd : FuncData), Fun K "paths_of" "paths_of" S_paths_of f fd ∧ mg "paths_of" = some (.ref f) ∧ Binds K fd ["term"] [])
    (h_part_of : ∃ (f : Addr) (fd : FuncData), Fun K "part_of" "part_of" S_part_of f fd ∧ mg "part_of" = some (.ref f) ∧ Binds K fd ["term", "path"] [])
    (h_is_path_of : ∃ (f : Addr) (fd : FuncData), Fun K "is_path_of" "is_path_of" S_is_path_of f fd ∧ mg "is_path_of" = some (.ref f) ∧ Binds K fd ["term", "value"] [])
    (h_is_term : ∃ (f : Addr) (fd : FuncData), Fun K "is_term" "is_term" S_is_term f fd ∧ mg "is_term" = some (.ref f) ∧ Binds K fd ["value"] [])
    (h_want_term : ∃ (f : Addr) (fd : FuncData), Fun K "want_term" "want_term" S_want_term f fd ∧ mg "want_term" = some (.ref f) ∧ Binds K fd ["value"] [])
    (h_variables : ∃ (f : Addr) (fd : FuncData), Fun K "variables" "variables" S_variables f fd ∧ mg "variables" = some (.ref f) ∧ Binds K fd ["term"] [])
    (h_nodes : ∃ (f : Addr) (fd : FuncData), Fun K "nodes" "nodes" S_nodes f fd ∧ mg "nodes" = some (.ref f) ∧ Binds K fd ["term"] [])
    (h_depth : ∃ (f : Addr) (fd : FuncData), Fun K "depth" "depth" S_depth f fd ∧ mg "depth" = some (.ref f) ∧ Binds K fd ["term"] [])
    (h_paths : ∃ (f : Addr) (fd : FuncData), Fun K "paths" "paths" S_paths f fd ∧ mg "paths" = some (.ref f) ∧ Binds K fd ["term"] [])
    (h_part_at : ∃ (f : Addr) (fd : FuncData), Fun K "part_at" "part_at" S_part_at f fd ∧ mg "part_at" = some (.ref f) ∧ Binds K fd ["term", "path"] [])
    (h__law_pot : ∃ (f : Addr) (fd : FuncData), Fun K "_law_pot" "_law_pot" S__law_pot f fd ∧ mg "_law_pot" = some (.ref f) ∧ Binds K fd ["script", "k"] [])
    (h__law_draw : ∃ (f : Addr) (fd : FuncData), Fun K "_law_draw" "_law_draw" S__law_draw f fd ∧ mg "_law_draw" = some (.ref f) ∧ Binds K fd ["pot", "many"] [])
    (h__law_pick : ∃ (f : Addr) (fd : FuncData), Fun K "_law_pick" "_law_pick" S__law_pick f fd ∧ mg "_law_pick" = some (.ref f) ∧ Binds K fd ["pot", "some"] [])
    (h__law_term : ∃ (f : Addr) (fd : FuncData), Fun K "_law_term" "_law_term" S__law_term f fd ∧ mg "_law_term" = some (.ref f) ∧ Binds K fd ["pot", "deep"] [])
    (h__law_great : ∃ (f : Addr) (fd : FuncData), Fun K "_law_great" "_law_great" S__law_great f fd ∧ mg "_law_great" = some (.ref f) ∧ Binds K fd ["pot"] [])
    (h__law_is_rest : ∃ (f : Addr) (fd : FuncData), Fun K "_law_is_rest" "_law_is_rest" S__law_is_rest f fd ∧ mg "_law_is_rest" = some (.ref f) ∧ Binds K fd ["value"] [])
    (h__law_rows : ∃ (f : Addr) (fd : FuncData), Fun K "_law_rows" "_law_rows" S__law_rows f fd ∧ mg "_law_rows" = some (.ref f) ∧ Binds K fd ["term"] [])
    (h__law_depth : ∃ (f : Addr) (fd : FuncData), Fun K "_law_depth" "_law_depth" S__law_depth f fd ∧ mg "_law_depth" = some (.ref f) ∧ Binds K fd ["term"] [])
    (h__law_variables : ∃ (f : Addr) (fd : FuncData), Fun K "_law_variables" "_law_variables" S__law_variables f fd ∧ mg "_law_variables" = some (.ref f) ∧ Binds K fd ["rows"] [])
    (h__law_some : ∃ (f : Addr) (fd : FuncData), Fun K "_law_some" "_law_some" S__law_some f fd ∧ mg "_law_some" = some (.ref f) ∧ Binds K fd ["pot", "rows", "many"] [])
    (h__law_within_right : ∃ (f : Addr) (fd : FuncData), Fun K "_law_within_right" "_law_within_right" S__law_within_right f fd ∧ mg "_law_within_right" = some (.ref f) ∧ Binds K fd ["pot", "term", "path"] [])
    (h_law : ∃ (f : Addr) (fd : FuncData), Fun K "law" "law" S_law f fd ∧ mg "law" = some (.ref f) ∧ Binds K fd ["script"] [])
    : ∀ n : Nat, G P w K mg base (run T n) n
  | 0 => { toGC := gc
           f_is_integer := let ⟨f, fd, F, m, b⟩ := h_is_integer; ⟨f, fd, F, m, b, fn_zero⟩
           f_is_count := let ⟨f, fd, F, m, b⟩ := h_is_count; ⟨f, fd, F, m, b, fn_zero⟩
           f_is_name := let ⟨f, fd, F, m, b⟩ := h_is_name; ⟨f, fd, F, m, b, fn_zero⟩
           f_is_variable := let ⟨f, fd, F, m, b⟩ := h_is_variable; ⟨f, fd, F, m, b, fn_zero⟩
           f_is_head := let ⟨f, fd, F, m, b⟩ := h_is_head; ⟨f, fd, F, m, b, fn_zero⟩
           f_is_rest := let ⟨f, fd, F, m, b⟩ := h_is_rest; ⟨f, fd, F, m, b, fn_zero⟩
           f_is_applied := let ⟨f, fd, F, m, b⟩ := h_is_applied; ⟨f, fd, F, m, b, fn_zero⟩
           f_standings := let ⟨f, fd, F, m, b⟩ := h_standings; ⟨f, fd, F, m, b, fn_zero⟩
           f_have_one_sort := let ⟨f, fd, F, m, b⟩ := h_have_one_sort; ⟨f, fd, F, m, b, fn_zero⟩
           f_pieces := let ⟨f, fd, F, m, b⟩ := h_pieces; ⟨f, fd, F, m, b, fn_zero⟩
           f_variables_of := let ⟨f, fd, F, m, b⟩ := h_variables_of; ⟨f, fd, F, m, b, fn_zero⟩
           f_nodes_of := let ⟨f, fd, F, m, b⟩ := h_nodes_of; ⟨f, fd, F, m, b, fn_zero⟩
           f_depth_of := let ⟨f, fd, F, m, b⟩ := h_depth_of; ⟨f, fd, F, m, b, fn_zero⟩
           f_paths_of := let ⟨f, fd, F, m, b⟩ := h_paths_of; ⟨f, fd, F, m, b, fn_zero⟩
           f_part_of := let ⟨f, fd, F, m, b⟩ := h_part_of; ⟨f, fd, F, m, b, fn_zero⟩
           f_is_path_of := let ⟨f, fd, F, m, b⟩ := h_is_path_of; ⟨f, fd, F, m, b, fn_zero⟩
           f_is_term := let ⟨f, fd, F, m, b⟩ := h_is_term; ⟨f, fd, F, m, b, fn_zero⟩
           f_want_term := let ⟨f, fd, F, m, b⟩ := h_want_term; ⟨f, fd, F, m, b, fn_zero⟩
           f_variables := let ⟨f, fd, F, m, b⟩ := h_variables; ⟨f, fd, F, m, b, fn_zero⟩
           f_nodes := let ⟨f, fd, F, m, b⟩ := h_nodes; ⟨f, fd, F, m, b, fn_zero⟩
           f_depth := let ⟨f, fd, F, m, b⟩ := h_depth; ⟨f, fd, F, m, b, fn_zero⟩
           f_paths := let ⟨f, fd, F, m, b⟩ := h_paths; ⟨f, fd, F, m, b, fn_zero⟩
           f_part_at := let ⟨f, fd, F, m, b⟩ := h_part_at; ⟨f, fd, F, m, b, fn_zero⟩
           f__law_pot := let ⟨f, fd, F, m, b⟩ := h__law_pot; ⟨f, fd, F, m, b, fn_zero⟩
           f__law_draw := let ⟨f, fd, F, m, b⟩ := h__law_draw; ⟨f, fd, F, m, b, fn_zero⟩
           f__law_pick := let ⟨f, fd, F, m, b⟩ := h__law_pick; ⟨f, fd, F, m, b, fn_zero⟩
           f__law_term := let ⟨f, fd, F, m, b⟩ := h__law_term; ⟨f, fd, F, m, b, fn_zero⟩
           f__law_great := let ⟨f, fd, F, m, b⟩ := h__law_great; ⟨f, fd, F, m, b, fn_zero⟩
           f__law_is_rest := let ⟨f, fd, F, m, b⟩ := h__law_is_rest; ⟨f, fd, F, m, b, fn_zero⟩
           f__law_rows := let ⟨f, fd, F, m, b⟩ := h__law_rows; ⟨f, fd, F, m, b, fn_zero⟩
           f__law_depth := let ⟨f, fd, F, m, b⟩ := h__law_depth; ⟨f, fd, F, m, b, fn_zero⟩
           f__law_variables := let ⟨f, fd, F, m, b⟩ := h__law_variables; ⟨f, fd, F, m, b, fn_zero⟩
           f__law_some := let ⟨f, fd, F, m, b⟩ := h__law_some; ⟨f, fd, F, m, b, fn_zero⟩
           f__law_within_right := let ⟨f, fd, F, m, b⟩ := h__law_within_right; ⟨f, fd, F, m, b, fn_zero⟩
           f_law := let ⟨f, fd, F, m, b⟩ := h_law; ⟨f, fd, F, m, b, fn_zero⟩
         }
  | n + 1 =>
    have ih := g_all gc h_is_integer h_is_count h_is_name h_is_variable h_is_head h_is_rest h_is_applied h_standings h_have_one_sort h_pieces h_variables_of h_nodes_of h_depth_of h_paths_of h_part_of h_is_path_of h_is_term h_want_term h_variables h_nodes h_depth h_paths h_part_at h__law_pot h__law_draw h__law_pick h__law_term h__law_great h__law_is_rest h__law_rows h__law_depth h__law_variables h__law_some h__law_within_right h_law n
    { toGC := gc
      f_is_integer := let ⟨f, fd, F, m, b⟩ := h_is_integer; ⟨f, fd, F, m, b, fn_rd F sc_is_integer rfl rfl fun cdv A outer s H E hr hG => k_is_integer ih f cdv A outer s H E hr hG⟩
      f_is_count := let ⟨f, fd, F, m, b⟩ := h_is_count; ⟨f, fd, F, m, b, fn_rd F sc_is_count rfl rfl fun cdv A outer s H E hr hG => k_is_count ih f cdv A outer s H E hr hG⟩
      f_is_name := let ⟨f, fd, F, m, b⟩ := h_is_name; ⟨f, fd, F, m, b, fn_rd F sc_is_name rfl rfl fun cdv A outer s H E hr hG => k_is_name ih f cdv A outer s H E hr hG⟩
      f_is_variable := let ⟨f, fd, F, m, b⟩ := h_is_variable; ⟨f, fd, F, m, b, fn_rd F sc_is_variable rfl rfl fun cdv A outer s H E hr hG => k_is_variable ih f cdv A outer s H E hr hG⟩
      f_is_head := let ⟨f, fd, F, m, b⟩ := h_is_head; ⟨f, fd, F, m, b, fn_rd F sc_is_head rfl rfl fun cdv A outer s H E hr hG => k_is_head ih f cdv A outer s H E hr hG⟩
      f_is_rest := let ⟨f, fd, F, m, b⟩ := h_is_rest; ⟨f, fd, F, m, b, fn_rd F sc_is_rest rfl rfl fun cdv A outer s H E hr hG => k_is_rest ih f cdv A outer s H E hr hG⟩
      f_is_applied := let ⟨f, fd, F, m, b⟩ := h_is_applied; ⟨f, fd, F, m, b, fn_rd F sc_is_applied rfl rfl fun cdv A outer s H E hr hG => k_is_applied ih f cdv A outer s H E hr hG⟩
      f_standings := let ⟨f, fd, F, m, b⟩ := h_standings; ⟨f, fd, F, m, b, fn_rd F sc_standings rfl rfl fun cdv A outer s H E hr hG => k_standings ih f cdv A outer s H E hr hG⟩
      f_have_one_sort := let ⟨f, fd, F, m, b⟩ := h_have_one_sort; ⟨f, fd, F, m, b, fn_rd F sc_have_one_sort rfl rfl fun cdv A outer s H E hr hG => k_have_one_sort ih f cdv A outer s H E hr hG⟩
      f_pieces := let ⟨f, fd, F, m, b⟩ := h_pieces; ⟨f, fd, F, m, b, fn_rd F sc_pieces rfl rfl fun cdv A outer s H E hr hG => k_pieces ih f cdv A outer s H E hr hG⟩
      f_variables_of := let ⟨f, fd, F, m, b⟩ := h_variables_of; ⟨f, fd, F, m, b, fn_rd F sc_variables_of rfl rfl fun cdv A outer s H E hr hG => k_variables_of ih f cdv A outer s H E hr hG⟩
      f_nodes_of := let ⟨f, fd, F, m, b⟩ := h_nodes_of; ⟨f, fd, F, m, b, fn_rd F sc_nodes_of rfl rfl fun cdv A outer s H E hr hG => k_nodes_of ih f cdv A outer s H E hr hG⟩
      f_depth_of := let ⟨f, fd, F, m, b⟩ := h_depth_of; ⟨f, fd, F, m, b, fn_rd F sc_depth_of rfl rfl fun cdv A outer s H E hr hG => k_depth_of ih f cdv A outer s H E hr hG⟩
      f_paths_of := let ⟨f, fd, F, m, b⟩ := h_paths_of; ⟨f, fd, F, m, b, fn_rd F sc_paths_of rfl rfl fun cdv A outer s H E hr hG => k_paths_of ih f cdv A outer s H E hr hG⟩
      f_part_of := let ⟨f, fd, F, m, b⟩ := h_part_of; ⟨f, fd, F, m, b, fn_rd F sc_part_of rfl rfl fun cdv A outer s H E hr hG => k_part_of ih f cdv A outer s H E hr hG⟩
      f_is_path_of := let ⟨f, fd, F, m, b⟩ := h_is_path_of; ⟨f, fd, F, m, b, fn_rd F sc_is_path_of rfl rfl fun cdv A outer s H E hr hG => k_is_path_of ih f cdv A outer s H E hr hG⟩
      f_is_term := let ⟨f, fd, F, m, b⟩ := h_is_term; ⟨f, fd, F, m, b, fn_rd F sc_is_term rfl rfl fun cdv A outer s H E hr hG => k_is_term ih f cdv A outer s H E hr hG⟩
      f_want_term := let ⟨f, fd, F, m, b⟩ := h_want_term; ⟨f, fd, F, m, b, fn_rd F sc_want_term rfl rfl fun cdv A outer s H E hr hG => k_want_term ih f cdv A outer s H E hr hG⟩
      f_variables := let ⟨f, fd, F, m, b⟩ := h_variables; ⟨f, fd, F, m, b, fn_rd F sc_variables rfl rfl fun cdv A outer s H E hr hG => k_variables ih f cdv A outer s H E hr hG⟩
      f_nodes := let ⟨f, fd, F, m, b⟩ := h_nodes; ⟨f, fd, F, m, b, fn_rd F sc_nodes rfl rfl fun cdv A outer s H E hr hG => k_nodes ih f cdv A outer s H E hr hG⟩
      f_depth := let ⟨f, fd, F, m, b⟩ := h_depth; ⟨f, fd, F, m, b, fn_rd F sc_depth rfl rfl fun cdv A outer s H E hr hG => k_depth ih f cdv A outer s H E hr hG⟩
      f_paths := let ⟨f, fd, F, m, b⟩ := h_paths; ⟨f, fd, F, m, b, fn_rd F sc_paths rfl rfl fun cdv A outer s H E hr hG => k_paths ih f cdv A outer s H E hr hG⟩
      f_part_at := let ⟨f, fd, F, m, b⟩ := h_part_at; ⟨f, fd, F, m, b, fn_rd F sc_part_at rfl rfl fun cdv A outer s H E hr hG => k_part_at ih f cdv A outer s H E hr hG⟩
      f__law_pot := let ⟨f, fd, F, m, b⟩ := h__law_pot; ⟨f, fd, F, m, b, fn_rd F sc__law_pot rfl rfl fun cdv A outer s H E hr hG => k__law_pot ih f cdv A outer s H E hr hG⟩
      f__law_draw := let ⟨f, fd, F, m, b⟩ := h__law_draw; ⟨f, fd, F, m, b, fn_rd F sc__law_draw rfl rfl fun cdv A outer s H E hr hG => k__law_draw ih f cdv A outer s H E hr hG⟩
      f__law_pick := let ⟨f, fd, F, m, b⟩ := h__law_pick; ⟨f, fd, F, m, b, fn_rd F sc__law_pick rfl rfl fun cdv A outer s H E hr hG => k__law_pick ih f cdv A outer s H E hr hG⟩
      f__law_term := let ⟨f, fd, F, m, b⟩ := h__law_term; ⟨f, fd, F, m, b, fn_rd F sc__law_term rfl rfl fun cdv A outer s H E hr hG => k__law_term ih f cdv A outer s H E hr hG⟩
      f__law_great := let ⟨f, fd, F, m, b⟩ := h__law_great; ⟨f, fd, F, m, b, fn_rd F sc__law_great rfl rfl fun cdv A outer s H E hr hG => k__law_great ih f cdv A outer s H E hr hG⟩
      f__law_is_rest := let ⟨f, fd, F, m, b⟩ := h__law_is_rest; ⟨f, fd, F, m, b, fn_rd F sc__law_is_rest rfl rfl fun cdv A outer s H E hr hG => k__law_is_rest ih f cdv A outer s H E hr hG⟩
      f__law_rows := let ⟨f, fd, F, m, b⟩ := h__law_rows; ⟨f, fd, F, m, b, fn_rd F sc__law_rows rfl rfl fun cdv A outer s H E hr hG => k__law_rows ih f cdv A outer s H E hr hG⟩
      f__law_depth := let ⟨f, fd, F, m, b⟩ := h__law_depth; ⟨f, fd, F, m, b, fn_rd F sc__law_depth rfl rfl fun cdv A outer s H E hr hG => k__law_depth ih f cdv A outer s H E hr hG⟩
      f__law_variables := let ⟨f, fd, F, m, b⟩ := h__law_variables; ⟨f, fd, F, m, b, fn_rd F sc__law_variables rfl rfl fun cdv A outer s H E hr hG => k__law_variables ih f cdv A outer s H E hr hG⟩
      f__law_some := let ⟨f, fd, F, m, b⟩ := h__law_some; ⟨f, fd, F, m, b, fn_rd F sc__law_some rfl rfl fun cdv A outer s H E hr hG => k__law_some ih f cdv A outer s H E hr hG⟩
      f__law_within_right := let ⟨f, fd, F, m, b⟩ := h__law_within_right; ⟨f, fd, F, m, b, fn_rd F sc__law_within_right rfl rfl fun cdv A outer s H E hr hG => k__law_within_right ih f cdv A outer s H E hr hG⟩
      f_law := let ⟨f, fd, F, m, b⟩ := h_law; ⟨f, fd, F, m, b, fn_rd F sc_law rfl rfl fun cdv A outer s H E hr hG => k_law ih f cdv A outer s H E hr hG⟩
    }
def depth : Nat := 100
theorem all_mk {l : PySem.W.OpenLaw} {h : Heap} {fa : Addr} (X : K.In h) (G : h.Ns mainGlobals mg) (hfa : mg "law" = some (.ref fa))
    {f_is_integer : Addr} {od_is_integer an_is_integer : Option Addr} {sl_is_integer : Array (Option Value)} {oc_is_integer kV_is_integer dc_is_integer pm_is_integer cd_is_integer ct_is_integer : Value}
    (a_is_integer : PySem.W.nsIn K mainGlobals "is_integer" = some (some (.ref f_is_integer))) (l_is_integer : K.lookup f_is_integer = some ⟨oc_is_integer, od_is_integer, .func (PySem.W.fnOf "is_integer" "is_integer" (defArgs S_is_integer) (defBody S_is_integer) (defScope S_is_integer) .none kV_is_integer dc_is_integer pm_is_integer an_is_integer cd_is_integer ct_is_integer), sl_is_integer⟩) (e_is_integer : PySem.W.codeIn K cd_is_integer "is_integer" = true) (k_is_integer : PySem.W.keepIn K (.ref f_is_integer) = true)
    {f_is_count : Addr} {od_is_count an_is_count : Option Addr} {sl_is_count : Array (Option Value)} {oc_is_count kV_is_count dc_is_count pm_is_count cd_is_count ct_is_count : Value}
    (a_is_count : PySem.W.nsIn K mainGlobals "is_count" = some (some (.ref f_is_count))) (l_is_count : K.lookup f_is_count = some ⟨oc_is_count, od_is_count, .func (PySem.W.fnOf "is_count" "is_count" (defArgs S_is_count) (defBody S_is_count) (defScope S_is_count) .none kV_is_count dc_is_count pm_is_count an_is_count cd_is_count ct_is_count), sl_is_count⟩) (e_is_count : PySem.W.codeIn K cd_is_count "is_count" = true) (k_is_count : PySem.W.keepIn K (.ref f_is_count) = true)
    {f_is_name : Addr} {od_is_name an_is_name : Option Addr} {sl_is_name : Array (Option Value)} {oc_is_name kV_is_name dc_is_name pm_is_name cd_is_name ct_is_name : Value}
    (a_is_name : PySem.W.nsIn K mainGlobals "is_name" = some (some (.ref f_is_name))) (l_is_name : K.lookup f_is_name = some ⟨oc_is_name, od_is_name, .func (PySem.W.fnOf "is_name" "is_name" (defArgs S_is_name) (defBody S_is_name) (defScope S_is_name) .none kV_is_name dc_is_name pm_is_name an_is_name cd_is_name ct_is_name), sl_is_name⟩) (e_is_name : PySem.W.codeIn K cd_is_name "is_name" = true) (k_is_name : PySem.W.keepIn K (.ref f_is_name) = true)
    {f_is_variable : Addr} {od_is_variable an_is_variable : Option Addr} {sl_is_variable : Array (Option Value)} {oc_is_variable kV_is_variable dc_is_variable pm_is_variable cd_is_variable ct_is_variable : Value}
    (a_is_variable : PySem.W.nsIn K mainGlobals "is_variable" = some (some (.ref f_is_variable))) (l_is_variable : K.lookup f_is_variable = some ⟨oc_is_variable, od_is_variable, .func (PySem.W.fnOf "is_variable" "is_variable" (defArgs S_is_variable) (defBody S_is_variable) (defScope S_is_variable) .none kV_is_variable dc_is_variable pm_is_variable an_is_variable cd_is_variable ct_is_variable), sl_is_variable⟩) (e_is_variable : PySem.W.codeIn K cd_is_variable "is_variable" = true) (k_is_variable : PySem.W.keepIn K (.ref f_is_variable) = true)
    {f_is_head : Addr} {od_is_head an_is_head : Option Addr} {sl_is_head : Array (Option Value)} {oc_is_head kV_is_head dc_is_head pm_is_head cd_is_head ct_is_head : Value}
    (a_is_head : PySem.W.nsIn K mainGlobals "is_head" = some (some (.ref f_is_head))) (l_is_head : K.lookup f_is_head = some ⟨oc_is_head, od_is_head, .func (PySem.W.fnOf "is_head" "is_head" (defArgs S_is_head) (defBody S_is_head) (defScope S_is_head) .none kV_is_head dc_is_head pm_is_head an_is_head cd_is_head ct_is_head), sl_is_head⟩) (e_is_head : PySem.W.codeIn K cd_is_head "is_head" = true) (k_is_head : PySem.W.keepIn K (.ref f_is_head) = true)
    {f_is_rest : Addr} {od_is_rest an_is_rest : Option Addr} {sl_is_rest : Array (Option Value)} {oc_is_rest kV_is_rest dc_is_rest pm_is_rest cd_is_rest ct_is_rest : Value}
    (a_is_rest : PySem.W.nsIn K mainGlobals "is_rest" = some (some (.ref f_is_rest))) (l_is_rest : K.lookup f_is_rest = some ⟨oc_is_rest, od_is_rest, .func (PySem.W.fnOf "is_rest" "is_rest" (defArgs S_is_rest) (defBody S_is_rest) (defScope S_is_rest) .none kV_is_rest dc_is_rest pm_is_rest an_is_rest cd_is_rest ct_is_rest), sl_is_rest⟩) (e_is_rest : PySem.W.codeIn K cd_is_rest "is_rest" = true) (k_is_rest : PySem.W.keepIn K (.ref f_is_rest) = true)
    {f_is_applied : Addr} {od_is_applied an_is_applied : Option Addr} {sl_is_applied : Array (Option Value)} {oc_is_applied kV_is_applied dc_is_applied pm_is_applied cd_is_applied ct_is_applied : Value}
    (a_is_applied : PySem.W.nsIn K mainGlobals "is_applied" = some (some (.ref f_is_applied))) (l_is_applied : K.lookup f_is_applied = some ⟨oc_is_applied, od_is_applied, .func (PySem.W.fnOf "is_applied" "is_applied" (defArgs S_is_applied) (defBody S_is_applied) (defScope S_is_applied) .none kV_is_applied dc_is_applied pm_is_applied an_is_applied cd_is_applied ct_is_applied), sl_is_applied⟩) (e_is_applied : PySem.W.codeIn K cd_is_applied "is_applied" = true) (k_is_applied : PySem.W.keepIn K (.ref f_is_applied) = true)
    {f_standings : Addr} {od_standings an_standings : Option Addr} {sl_standings : Array (Option Value)} {oc_standings kV_standings dc_standings pm_standings cd_standings ct_standings : Value}
    (a_standings : PySem.W.nsIn K mainGlobals "standings" = some (some (.ref f_standings))) (l_standings : K.lookup f_standings = some ⟨oc_standings, od_standings, .func (PySem.W.fnOf "standings" "standings" (defArgs S_standings) (defBody S_standings) (defScope S_standings) .none kV_standings dc_standings pm_standings an_standings cd_standings ct_standings), sl_standings⟩) (e_standings : PySem.W.codeIn K cd_standings "standings" = true) (k_standings : PySem.W.keepIn K (.ref f_standings) = true)
    {f_have_one_sort : Addr} {od_have_one_sort an_have_one_sort : Option Addr} {sl_have_one_sort : Array (Option Value)} {oc_have_one_sort kV_have_one_sort dc_have_one_sort pm_have_one_sort cd_have_one_sort ct_have_one_sort : Value}
    (a_have_one_sort : PySem.W.nsIn K mainGlobals "have_one_sort" = some (some (.ref f_have_one_sort))) (l_have_one_sort : K.lookup f_have_one_sort = some ⟨oc_have_one_sort, od_have_one_sort, .func (PySem.W.fnOf "have_one_sort" "have_one_sort" (defArgs S_have_one_sort) (defBody S_have_one_sort) (defScope S_have_one_sort) .none kV_have_one_sort dc_have_one_sort pm_have_one_sort an_have_one_sort cd_have_one_sort ct_have_one_sort), sl_have_one_sort⟩) (e_have_one_sort : PySem.W.codeIn K cd_have_one_sort "have_one_sort" = true) (k_have_one_sort : PySem.W.keepIn K (.ref f_have_one_sort) = true)
    {f_pieces : Addr} {od_pieces an_pieces : Option Addr} {sl_pieces : Array (Option Value)} {oc_pieces kV_pieces dc_pieces pm_pieces cd_pieces ct_pieces : Value}
    (a_pieces : PySem.W.nsIn K mainGlobals "pieces" = some (some (.ref f_pieces))) (l_pieces : K.lookup f_pieces = some ⟨oc_pieces, od_pieces, .func (PySem.W.fnOf "pieces" "pieces" (defArgs S_pieces) (defBody S_pieces) (defScope S_pieces) .none kV_pieces dc_pieces pm_pieces an_pieces cd_pieces ct_pieces), sl_pieces⟩) (e_pieces : PySem.W.codeIn K cd_pieces "pieces" = true) (k_pieces : PySem.W.keepIn K (.ref f_pieces) = true)
    {f_variables_of : Addr} {od_variables_of an_variables_of : Option Addr} {sl_variables_of : Array (Option Value)} {oc_variables_of kV_variables_of dc_variables_of pm_variables_of cd_variables_of ct_variables_of : Value}
    (a_variables_of : PySem.W.nsIn K mainGlobals "variables_of" = some (some (.ref f_variables_of))) (l_variables_of : K.lookup f_variables_of = some ⟨oc_variables_of, od_variables_of, .func (PySem.W.fnOf "variables_of" "variables_of" (defArgs S_variables_of) (defBody S_variables_of) (defScope S_variables_of) .none kV_variables_of dc_variables_of pm_variables_of an_variables_of cd_variables_of ct_variables_of), sl_variables_of⟩) (e_variables_of : PySem.W.codeIn K cd_variables_of "variables_of" = true) (k_variables_of : PySem.W.keepIn K (.ref f_variables_of) = true)
    {f_nodes_of : Addr} {od_nodes_of an_nodes_of : Option Addr} {sl_nodes_of : Array (Option Value)} {oc_nodes_of kV_nodes_of dc_nodes_of pm_nodes_of cd_nodes_of ct_nodes_of : Value}
    (a_nodes_of : PySem.W.nsIn K mainGlobals "nodes_of" = some (some (.ref f_nodes_of))) (l_nodes_of : K.lookup f_nodes_of = some ⟨oc_nodes_of, od_nodes_of, .func (PySem.W.fnOf "nodes_of" "nodes_of" (defArgs S_nodes_of) (defBody S_nodes_of) (defScope S_nodes_of) .none kV_nodes_of dc_nodes_of pm_nodes_of an_nodes_of cd_nodes_of ct_nodes_of), sl_nodes_of⟩) (e_nodes_of : PySem.W.codeIn K cd_nodes_of "nodes_of" = true) (k_nodes_of : PySem.W.keepIn K (.ref f_nodes_of) = true)
    {f_depth_of : Addr} {od_depth_of an_depth_of : Option Addr} {sl_depth_of : Array (Option Value)} {oc_depth_of kV_depth_of dc_depth_of pm_depth_of cd_depth_of ct_depth_of : Value}
    (a_depth_of : PySem.W.nsIn K mainGlobals "depth_of" = some (some (.ref f_depth_of))) (l_depth_of : K.lookup f_depth_of = some ⟨oc_depth_of, od_depth_of, .func (PySem.W.fnOf "depth_of" "depth_of" (defArgs S_depth_of) (defBody S_depth_of) (defScope S_depth_of) .none kV_depth_of dc_depth_of pm_depth_of an_depth_of cd_depth_of ct_depth_of), sl_depth_of⟩) (e_depth_of : PySem.W.codeIn K cd_depth_of "depth_of" = true) (k_depth_of : PySem.W.keepIn K (.ref f_depth_of) = true)
    {f_paths_of : Addr} {od_paths_of an_paths_of : Option Addr} {sl_paths_of : Array (Option Value)} {oc_paths_of kV_paths_of dc_paths_of pm_paths_of cd_paths_of ct_paths_of : Value}
    (a_paths_of : PySem.W.nsIn K mainGlobals "paths_of" = some (some (.ref f_paths_of))) (l_paths_of : K.lookup f_paths_of = some ⟨oc_paths_of, od_paths_of, .func (PySem.W.fnOf "paths_of" "paths_of" (defArgs S_paths_of) (defBody S_paths_of) (defScope S_paths_of) .none kV_paths_of dc_paths_of pm_paths_of an_paths_of cd_paths_of ct_paths_of), sl_paths_of⟩) (e_paths_of : PySem.W.codeIn K cd_paths_of "paths_of" = true) (k_paths_of : PySem.W.keepIn K (.ref f_paths_of) = true)
    {f_part_of : Addr} {od_part_of an_part_of : Option Addr} {sl_part_of : Array (Option Value)} {oc_part_of kV_part_of dc_part_of pm_part_of cd_part_of ct_part_of : Value}
    (a_part_of : PySem.W.nsIn K mainGlobals "part_of" = some (some (.ref f_part_of))) (l_part_of : K.lookup f_part_of = some ⟨oc_part_of, od_part_of, .func (PySem.W.fnOf "part_of" "part_of" (defArgs S_part_of) (defBody S_part_of) (defScope S_part_of) .none kV_part_of dc_part_of pm_part_of an_part_of cd_part_of ct_part_of), sl_part_of⟩) (e_part_of : PySem.W.codeIn K cd_part_of "part_of" = true) (k_part_of : PySem.W.keepIn K (.ref f_part_of) = true)
    {f_is_path_of : Addr} {od_is_path_of an_is_path_of : Option Addr} {sl_is_path_of : Array (Option Value)} {oc_is_path_of kV_is_path_of dc_is_path_of pm_is_path_of cd_is_path_of ct_is_path_of : Value}
    (a_is_path_of : PySem.W.nsIn K mainGlobals "is_path_of" = some (some (.ref f_is_path_of))) (l_is_path_of : K.lookup f_is_path_of = some ⟨oc_is_path_of, od_is_path_of, .func (PySem.W.fnOf "is_path_of" "is_path_of" (defArgs S_is_path_of) (defBody S_is_path_of) (defScope S_is_path_of) .none kV_is_path_of dc_is_path_of pm_is_path_of an_is_path_of cd_is_path_of ct_is_path_of), sl_is_path_of⟩) (e_is_path_of : PySem.W.codeIn K cd_is_path_of "is_path_of" = true) (k_is_path_of : PySem.W.keepIn K (.ref f_is_path_of) = true)
    {f_is_term : Addr} {od_is_term an_is_term : Option Addr} {sl_is_term : Array (Option Value)} {oc_is_term kV_is_term dc_is_term pm_is_term cd_is_term ct_is_term : Value}
    (a_is_term : PySem.W.nsIn K mainGlobals "is_term" = some (some (.ref f_is_term))) (l_is_term : K.lookup f_is_term = some ⟨oc_is_term, od_is_term, .func (PySem.W.fnOf "is_term" "is_term" (defArgs S_is_term) (defBody S_is_term) (defScope S_is_term) .none kV_is_term dc_is_term pm_is_term an_is_term cd_is_term ct_is_term), sl_is_term⟩) (e_is_term : PySem.W.codeIn K cd_is_term "is_term" = true) (k_is_term : PySem.W.keepIn K (.ref f_is_term) = true)
    {f_want_term : Addr} {od_want_term an_want_term : Option Addr} {sl_want_term : Array (Option Value)} {oc_want_term kV_want_term dc_want_term pm_want_term cd_want_term ct_want_term : Value}
    (a_want_term : PySem.W.nsIn K mainGlobals "want_term" = some (some (.ref f_want_term))) (l_want_term : K.lookup f_want_term = some ⟨oc_want_term, od_want_term, .func (PySem.W.fnOf "want_term" "want_term" (defArgs S_want_term) (defBody S_want_term) (defScope S_want_term) .none kV_want_term dc_want_term pm_want_term an_want_term cd_want_term ct_want_term), sl_want_term⟩) (e_want_term : PySem.W.codeIn K cd_want_term "want_term" = true) (k_want_term : PySem.W.keepIn K (.ref f_want_term) = true)
    {f_variables : Addr} {od_variables an_variables : Option Addr} {sl_variables : Array (Option Value)} {oc_variables kV_variables dc_variables pm_variables cd_variables ct_variables : Value}
    (a_variables : PySem.W.nsIn K mainGlobals "variables" = some (some (.ref f_variables))) (l_variables : K.lookup f_variables = some ⟨oc_variables, od_variables, .func (PySem.W.fnOf "variables" "variables" (defArgs S_variables) (defBody S_variables) (defScope S_variables) .none kV_variables dc_variables pm_variables an_variables cd_variables ct_variables), sl_variables⟩) (e_variables : PySem.W.codeIn K cd_variables "variables" = true) (k_variables : PySem.W.keepIn K (.ref f_variables) = true)
    {f_nodes : Addr} {od_nodes an_nodes : Option Addr} {sl_nodes : Array (Option Value)} {oc_nodes kV_nodes dc_nodes pm_nodes cd_nodes ct_nodes : Value}
    (a_nodes : PySem.W.nsIn K mainGlobals "nodes" = some (some (.ref f_nodes))) (l_nodes : K.lookup f_nodes = some ⟨oc_nodes, od_nodes, .func (PySem.W.fnOf "nodes" "nodes" (defArgs S_nodes) (defBody S_nodes) (defScope S_nodes) .none kV_nodes dc_nodes pm_nodes an_nodes cd_nodes ct_nodes), sl_nodes⟩) (e_nodes : PySem.W.codeIn K cd_nodes "nodes" = true) (k_nodes : PySem.W.keepIn K (.ref f_nodes) = true)
    {f_depth : Addr} {od_depth an_depth : Option Addr} {sl_depth : Array (Option Value)} {oc_depth kV_depth dc_depth pm_depth cd_depth ct_depth : Value}
    (a_depth : PySem.W.nsIn K mainGlobals "depth" = some (some (.ref f_depth))) (l_depth : K.lookup f_depth = some ⟨oc_depth, od_depth, .func (PySem.W.fnOf "depth" "depth" (defArgs S_depth) (defBody S_depth) (defScope S_depth) .none kV_depth dc_depth pm_depth an_depth cd_depth ct_depth), sl_depth⟩) (e_depth : PySem.W.codeIn K cd_depth "depth" = true) (k_depth : PySem.W.keepIn K (.ref f_depth) = true)
    {f_paths : Addr} {od_paths an_paths : Option Addr} {sl_paths : Array (Option Value)} {oc_paths kV_paths dc_paths pm_paths cd_paths ct_paths : Value}
    (a_paths : PySem.W.nsIn K mainGlobals "paths" = some (some (.ref f_paths))) (l_paths : K.lookup f_paths = some ⟨oc_paths, od_paths, .func (PySem.W.fnOf "paths" "paths" (defArgs S_paths) (defBody S_paths) (defScope S_paths) .none kV_paths dc_paths pm_paths an_paths cd_paths ct_paths), sl_paths⟩) (e_paths : PySem.W.codeIn K cd_paths "paths" = true) (k_paths : PySem.W.keepIn K (.ref f_paths) = true)
    {f_part_at : Addr} {od_part_at an_part_at : Option Addr} {sl_part_at : Array (Option Value)} {oc_part_at kV_part_at dc_part_at pm_part_at cd_part_at ct_part_at : Value}
    (a_part_at : PySem.W.nsIn K mainGlobals "part_at" = some (some (.ref f_part_at))) (l_part_at : K.lookup f_part_at = some ⟨oc_part_at, od_part_at, .func (PySem.W.fnOf "part_at" "part_at" (defArgs S_part_at) (defBody S_part_at) (defScope S_part_at) .none kV_part_at dc_part_at pm_part_at an_part_at cd_part_at ct_part_at), sl_part_at⟩) (e_part_at : PySem.W.codeIn K cd_part_at "part_at" = true) (k_part_at : PySem.W.keepIn K (.ref f_part_at) = true)
    {f__law_pot : Addr} {od__law_pot an__law_pot : Option Addr} {sl__law_pot : Array (Option Value)} {oc__law_pot kV__law_pot dc__law_pot pm__law_pot cd__law_pot ct__law_pot : Value}
    (a__law_pot : PySem.W.nsIn K mainGlobals "_law_pot" = some (some (.ref f__law_pot))) (l__law_pot : K.lookup f__law_pot = some ⟨oc__law_pot, od__law_pot, .func (PySem.W.fnOf "_law_pot" "_law_pot" (defArgs S__law_pot) (defBody S__law_pot) (defScope S__law_pot) .none kV__law_pot dc__law_pot pm__law_pot an__law_pot cd__law_pot ct__law_pot), sl__law_pot⟩) (e__law_pot : PySem.W.codeIn K cd__law_pot "_law_pot" = true) (k__law_pot : PySem.W.keepIn K (.ref f__law_pot) = true)
    {f__law_draw : Addr} {od__law_draw an__law_draw : Option Addr} {sl__law_draw : Array (Option Value)} {oc__law_draw kV__law_draw dc__law_draw pm__law_draw cd__law_draw ct__law_draw : Value}
    (a__law_draw : PySem.W.nsIn K mainGlobals "_law_draw" = some (some (.ref f__law_draw))) (l__law_draw : K.lookup f__law_draw = some ⟨oc__law_draw, od__law_draw, .func (PySem.W.fnOf "_law_draw" "_law_draw" (defArgs S__law_draw) (defBody S__law_draw) (defScope S__law_draw) .none kV__law_draw dc__law_draw pm__law_draw an__law_draw cd__law_draw ct__law_draw), sl__law_draw⟩) (e__law_draw : PySem.W.codeIn K cd__law_draw "_law_draw" = true) (k__law_draw : PySem.W.keepIn K (.ref f__law_draw) = true)
    {f__law_pick : Addr} {od__law_pick an__law_pick : Option Addr} {sl__law_pick : Array (Option Value)} {oc__law_pick kV__law_pick dc__law_pick pm__law_pick cd__law_pick ct__law_pick : Value}
    (a__law_pick : PySem.W.nsIn K mainGlobals "_law_pick" = some (some (.ref f__law_pick))) (l__law_pick : K.lookup f__law_pick = some ⟨oc__law_pick, od__law_pick, .func (PySem.W.fnOf "_law_pick" "_law_pick" (defArgs S__law_pick) (defBody S__law_pick) (defScope S__law_pick) .none kV__law_pick dc__law_pick pm__law_pick an__law_pick cd__law_pick ct__law_pick), sl__law_pick⟩) (e__law_pick : PySem.W.codeIn K cd__law_pick "_law_pick" = true) (k__law_pick : PySem.W.keepIn K (.ref f__law_pick) = true)
    {f__law_term : Addr} {od__law_term an__law_term : Option Addr} {sl__law_term : Array (Option Value)} {oc__law_term kV__law_term dc__law_term pm__law_term cd__law_term ct__law_term : Value}
    (a__law_term : PySem.W.nsIn K mainGlobals "_law_term" = some (some (.ref f__law_term))) (l__law_term : K.lookup f__law_term = some ⟨oc__law_term, od__law_term, .func (PySem.W.fnOf "_law_term" "_law_term" (defArgs S__law_term) (defBody S__law_term) (defScope S__law_term) .none kV__law_term dc__law_term pm__law_term an__law_term cd__law_term ct__law_term), sl__law_term⟩) (e__law_term : PySem.W.codeIn K cd__law_term "_law_term" = true) (k__law_term : PySem.W.keepIn K (.ref f__law_term) = true)
    {f__law_great : Addr} {od__law_great an__law_great : Option Addr} {sl__law_great : Array (Option Value)} {oc__law_great kV__law_great dc__law_great pm__law_great cd__law_great ct__law_great : Value}
    (a__law_great : PySem.W.nsIn K mainGlobals "_law_great" = some (some (.ref f__law_great))) (l__law_great : K.lookup f__law_great = some ⟨oc__law_great, od__law_great, .func (PySem.W.fnOf "_law_great" "_law_great" (defArgs S__law_great) (defBody S__law_great) (defScope S__law_great) .none kV__law_great dc__law_great pm__law_great an__law_great cd__law_great ct__law_great), sl__law_great⟩) (e__law_great : PySem.W.codeIn K cd__law_great "_law_great" = true) (k__law_great : PySem.W.keepIn K (.ref f__law_great) = true)
    {f__law_is_rest : Addr} {od__law_is_rest an__law_is_rest : Option Addr} {sl__law_is_rest : Array (Option Value)} {oc__law_is_rest kV__law_is_rest dc__law_is_rest pm__law_is_rest cd__law_is_rest ct__law_is_rest : Value}
    (a__law_is_rest : PySem.W.nsIn K mainGlobals "_law_is_rest" = some (some (.ref f__law_is_rest))) (l__law_is_rest : K.lookup f__law_is_rest = some ⟨oc__law_is_rest, od__law_is_rest, .func (PySem.W.fnOf "_law_is_rest" "_law_is_rest" (defArgs S__law_is_rest) (defBody S__law_is_rest) (defScope S__law_is_rest) .none kV__law_is_rest dc__law_is_rest pm__law_is_rest an__law_is_rest cd__law_is_rest ct__law_is_rest), sl__law_is_rest⟩) (e__law_is_rest : PySem.W.codeIn K cd__law_is_rest "_law_is_rest" = true) (k__law_is_rest : PySem.W.keepIn K (.ref f__law_is_rest) = true)
    {f__law_rows : Addr} {od__law_rows an__law_rows : Option Addr} {sl__law_rows : Array (Option Value)} {oc__law_rows kV__law_rows dc__law_rows pm__law_rows cd__law_rows ct__law_rows : Value}
    (a__law_rows : PySem.W.nsIn K mainGlobals "_law_rows" = some (some (.ref f__law_rows))) (l__law_rows : K.lookup f__law_rows = some ⟨oc__law_rows, od__law_rows, .func (PySem.W.fnOf "_law_rows" "_law_rows" (defArgs S__law_rows) (defBody S__law_rows) (defScope S__law_rows) .none kV__law_rows dc__law_rows pm__law_rows an__law_rows cd__law_rows ct__law_rows), sl__law_rows⟩) (e__law_rows : PySem.W.codeIn K cd__law_rows "_law_rows" = true) (k__law_rows : PySem.W.keepIn K (.ref f__law_rows) = true)
    {f__law_depth : Addr} {od__law_depth an__law_depth : Option Addr} {sl__law_depth : Array (Option Value)} {oc__law_depth kV__law_depth dc__law_depth pm__law_depth cd__law_depth ct__law_depth : Value}
    (a__law_depth : PySem.W.nsIn K mainGlobals "_law_depth" = some (some (.ref f__law_depth))) (l__law_depth : K.lookup f__law_depth = some ⟨oc__law_depth, od__law_depth, .func (PySem.W.fnOf "_law_depth" "_law_depth" (defArgs S__law_depth) (defBody S__law_depth) (defScope S__law_depth) .none kV__law_depth dc__law_depth pm__law_depth an__law_depth cd__law_depth ct__law_depth), sl__law_depth⟩) (e__law_depth : PySem.W.codeIn K cd__law_depth "_law_depth" = true) (k__law_depth : PySem.W.keepIn K (.ref f__law_depth) = true)
    {f__law_variables : Addr} {od__law_variables an__law_variables : Option Addr} {sl__law_variables : Array (Option Value)} {oc__law_variables kV__law_variables dc__law_variables pm__law_variables cd__law_variables ct__law_variables : Value}
    (a__law_variables : PySem.W.nsIn K mainGlobals "_law_variables" = some (some (.ref f__law_variables))) (l__law_variables : K.lookup f__law_variables = some ⟨oc__law_variables, od__law_variables, .func (PySem.W.fnOf "_law_variables" "_law_variables" (defArgs S__law_variables) (defBody S__law_variables) (defScope S__law_variables) .none kV__law_variables dc__law_variables pm__law_variables an__law_variables cd__law_variables ct__law_variables), sl__law_variables⟩) (e__law_variables : PySem.W.codeIn K cd__law_variables "_law_variables" = true) (k__law_variables : PySem.W.keepIn K (.ref f__law_variables) = true)
    {f__law_some : Addr} {od__law_some an__law_some : Option Addr} {sl__law_some : Array (Option Value)} {oc__law_some kV__law_some dc__law_some pm__law_some cd__law_some ct__law_some : Value}
    (a__law_some : PySem.W.nsIn K mainGlobals "_law_some" = some (some (.ref f__law_some))) (l__law_some : K.lookup f__law_some = some ⟨oc__law_some, od__law_some, .func (PySem.W.fnOf "_law_some" "_law_some" (defArgs S__law_some) (defBody S__law_some) (defScope S__law_some) .none kV__law_some dc__law_some pm__law_some an__law_some cd__law_some ct__law_some), sl__law_some⟩) (e__law_some : PySem.W.codeIn K cd__law_some "_law_some" = true) (k__law_some : PySem.W.keepIn K (.ref f__law_some) = true)
    {f__law_within_right : Addr} {od__law_within_right an__law_within_right : Option Addr} {sl__law_within_right : Array (Option Value)} {oc__law_within_right kV__law_within_right dc__law_within_right pm__law_within_right cd__law_within_right ct__law_within_right : Value}
    (a__law_within_right : PySem.W.nsIn K mainGlobals "_law_within_right" = some (some (.ref f__law_within_right))) (l__law_within_right : K.lookup f__law_within_right = some ⟨oc__law_within_right, od__law_within_right, .func (PySem.W.fnOf "_law_within_right" "_law_within_right" (defArgs S__law_within_right) (defBody S__law_within_right) (defScope S__law_within_right) .none kV__law_within_right dc__law_within_right pm__law_within_right an__law_within_right cd__law_within_right ct__law_within_right), sl__law_within_right⟩) (e__law_within_right : PySem.W.codeIn K cd__law_within_right "_law_within_right" = true) (k__law_within_right : PySem.W.keepIn K (.ref f__law_within_right) = true)
    {f_law : Addr} {od_law an_law : Option Addr} {sl_law : Array (Option Value)} {oc_law kV_law dc_law pm_law cd_law ct_law : Value}
    (a_law : PySem.W.nsIn K mainGlobals "law" = some (some (.ref f_law))) (l_law : K.lookup f_law = some ⟨oc_law, od_law, .func (PySem.W.fnOf "law" "law" (defArgs S_law) (defBody S_law) (defScope S_law) .none kV_law dc_law pm_law an_law cd_law ct_law), sl_law⟩) (e_law : PySem.W.codeIn K cd_law "law" = true) (k_law : PySem.W.keepIn K (.ref f_law) = true)
    (z_abs : PySem.W.nsIn K mainGlobals "abs" = some none)
    (z_all : PySem.W.nsIn K mainGlobals "all" = some none)
    (z_bool : PySem.W.nsIn K mainGlobals "bool" = some none)
    (z_divmod : PySem.W.nsIn K mainGlobals "divmod" = some none)
    (z_enumerate : PySem.W.nsIn K mainGlobals "enumerate" = some none)
    (z_int : PySem.W.nsIn K mainGlobals "int" = some none)
    (z_isinstance : PySem.W.nsIn K mainGlobals "isinstance" = some none)
    (z_len : PySem.W.nsIn K mainGlobals "len" = some none)
    (z_max : PySem.W.nsIn K mainGlobals "max" = some none)
    (z_range : PySem.W.nsIn K mainGlobals "range" = some none)
    (z_repr : PySem.W.nsIn K mainGlobals "repr" = some none)
    (z_sorted : PySem.W.nsIn K mainGlobals "sorted" = some none)
    (z_str : PySem.W.nsIn K mainGlobals "str" = some none)
    (z_tuple : PySem.W.nsIn K mainGlobals "tuple" = some none)
    {t_DIGITS : Tok} (c_DIGITS : PySem.W.nsIn K mainGlobals "DIGITS" = some (some (.str "0123456789" t_DIGITS)))
    {t_GREAT : Tok} (c_GREAT : PySem.W.nsIn K mainGlobals "GREAT" = some (some (.str "ABCDEFGHIJKLMNOPQRSTUVWXYZ" t_GREAT)))
    {t_HEAD : Tok} (c_HEAD : PySem.W.nsIn K mainGlobals "HEAD" = some (some (.str "head" t_HEAD)))
    {t_MOST_DIGITS : Tok} (c_MOST_DIGITS : PySem.W.nsIn K mainGlobals "MOST_DIGITS" = some (some (.int (2) t_MOST_DIGITS)))
    {t_MOST_SIGNS : Tok} (c_MOST_SIGNS : PySem.W.nsIn K mainGlobals "MOST_SIGNS" = some (some (.int (8) t_MOST_SIGNS)))
    {t_REST : Tok} (c_REST : PySem.W.nsIn K mainGlobals "REST" = some (some (.str "rest" t_REST)))
    {t_SMALL : Tok} (c_SMALL : PySem.W.nsIn K mainGlobals "SMALL" = some (some (.str "abcdefghijklmnopqrstuvwxyz" t_SMALL)))
    {t_TERM : Tok} (c_TERM : PySem.W.nsIn K mainGlobals "TERM" = some (some (.str "term" t_TERM)))
    : ∃ fd : FuncData, (∀ (s : Shared) (v : Value), BindsTo s fd ⟨[v], []⟩ [("script", v)]) ∧ ∀ base : Heap, K.In base → base.Ns mainGlobals mg → FnG l.prog w K mg base CX0 depth fa fd ["script"] (spF K (fun _ => 0) (run T depth) 34 1) := by
  have e := hfa.symm.trans (PySem.W.mg_of X G a_law)
  cases e
  have F_is_integer := fun_mk (st := S_is_integer) l_is_integer e_is_integer k_is_integer
  have b_is_integer := F_is_integer.binds (ps := ["value"]) fun _ _ _ _ _ _ us hl => match us, hl with | [_], _ => rfl
  have F_is_count := fun_mk (st := S_is_count) l_is_count e_is_count k_is_count
  have b_is_count := F_is_count.binds (ps := ["value"]) fun _ _ _ _ _ _ us hl => match us, hl with | [_], _ => rfl
  have F_is_name := fun_mk (st := S_is_name) l_is_name e_is_name k_is_name
  have b_is_name := F_is_name.binds (ps := ["value"]) fun _ _ _ _ _ _ us hl => match us, hl with | [_], _ => rfl
  have F_is_variable := fun_mk (st := S_is_variable) l_is_variable e_is_variable k_is_variable
  have b_is_variable := F_is_variable.binds (ps := ["value"]) fun _ _ _ _ _ _ us hl => match us, hl with | [_], _ => rfl
  have F_is_head := fun_mk (st := S_is_head) l_is_head e_is_head k_is_head
  have b_is_head := F_is_head.binds (ps := ["value"]) fun _ _ _ _ _ _ us hl => match us, hl with | [_], _ => rfl
  have F_is_rest := fun_mk (st := S_is_rest) l_is_rest e_is_rest k_is_rest
  have b_is_rest := F_is_rest.binds (ps := ["value"]) fun _ _ _ _ _ _ us hl => match us, hl with | [_], _ => rfl
  have F_is_applied := fun_mk (st := S_is_applied) l_is_applied e_is_applied k_is_applied
  have b_is_applied := F_is_applied.binds (ps := ["value"]) fun _ _ _ _ _ _ us hl => match us, hl with | [_], _ => rfl
  have F_standings := fun_mk (st := S_standings) l_standings e_standings k_standings
  have b_standings := F_standings.binds (ps := ["value"]) fun _ _ _ _ _ _ us hl => match us, hl with | [_], _ => rfl
  have F_have_one_sort := fun_mk (st := S_have_one_sort) l_have_one_sort e_have_one_sort k_have_one_sort
  have b_have_one_sort := F_have_one_sort.binds (ps := ["found"]) fun _ _ _ _ _ _ us hl => match us, hl with | [_], _ => rfl
  have F_pieces := fun_mk (st := S_pieces) l_pieces e_pieces k_pieces
  have b_pieces := F_pieces.binds (ps := ["term"]) fun _ _ _ _ _ _ us hl => match us, hl with | [_], _ => rfl
  have F_variables_of := fun_mk (st := S_variables_of) l_variables_of e_variables_of k_variables_of
  have b_variables_of := F_variables_of.binds (ps := ["term"]) fun _ _ _ _ _ _ us hl => match us, hl with | [_], _ => rfl
  have F_nodes_of := fun_mk (st := S_nodes_of) l_nodes_of e_nodes_of k_nodes_of
  have b_nodes_of := F_nodes_of.binds (ps := ["term"]) fun _ _ _ _ _ _ us hl => match us, hl with | [_], _ => rfl
  have F_depth_of := fun_mk (st := S_depth_of) l_depth_of e_depth_of k_depth_of
  have b_depth_of := F_depth_of.binds (ps := ["term"]) fun _ _ _ _ _ _ us hl => match us, hl with | [_], _ => rfl
  have F_paths_of := fun_mk (st := S_paths_of) l_paths_of e_paths_of k_paths_of
  have b_paths_of := F_paths_of.binds (ps := ["term"]) fun _ _ _ _ _ _ us hl => match us, hl with | [_], _ => rfl
  have F_part_of := fun_mk (st := S_part_of) l_part_of e_part_of k_part_of
  have b_part_of := F_part_of.binds (ps := ["term", "path"]) fun _ _ _ _ _ _ us hl => match us, hl with | [_, _], _ => rfl
  have F_is_path_of := fun_mk (st := S_is_path_of) l_is_path_of e_is_path_of k_is_path_of
  have b_is_path_of := F_is_path_of.binds (ps := ["term", "value"]) fun _ _ _ _ _ _ us hl => match us, hl with | [_, _], _ => rfl
  have F_is_term := fun_mk (st := S_is_term) l_is_term e_is_term k_is_term
  have b_is_term := F_is_term.binds (ps := ["value"]) fun _ _ _ _ _ _ us hl => match us, hl with | [_], _ => rfl
  have F_want_term := fun_mk (st := S_want_term) l_want_term e_want_term k_want_term
  have b_want_term := F_want_term.binds (ps := ["value"]) fun _ _ _ _ _ _ us hl => match us, hl with | [_], _ => rfl
  have F_variables := fun_mk (st := S_variables) l_variables e_variables k_variables
  have b_variables := F_variables.binds (ps := ["term"]) fun _ _ _ _ _ _ us hl => match us, hl with | [_], _ => rfl
  have F_nodes := fun_mk (st := S_nodes) l_nodes e_nodes k_nodes
  have b_nodes := F_nodes.binds (ps := ["term"]) fun _ _ _ _ _ _ us hl => match us, hl with | [_], _ => rfl
  have F_depth := fun_mk (st := S_depth) l_depth e_depth k_depth
  have b_depth := F_depth.binds (ps := ["term"]) fun _ _ _ _ _ _ us hl => match us, hl with | [_], _ => rfl
  have F_paths := fun_mk (st := S_paths) l_paths e_paths k_paths
  have b_paths := F_paths.binds (ps := ["term"]) fun _ _ _ _ _ _ us hl => match us, hl with | [_], _ => rfl
  have F_part_at := fun_mk (st := S_part_at) l_part_at e_part_at k_part_at
  have b_part_at := F_part_at.binds (ps := ["term", "path"]) fun _ _ _ _ _ _ us hl => match us, hl with | [_, _], _ => rfl
  have F__law_pot := fun_mk (st := S__law_pot) l__law_pot e__law_pot k__law_pot
  have b__law_pot := F__law_pot.binds (ps := ["script", "k"]) fun _ _ _ _ _ _ us hl => match us, hl with | [_, _], _ => rfl
  have F__law_draw := fun_mk (st := S__law_draw) l__law_draw e__law_draw k__law_draw
  have b__law_draw := F__law_draw.binds (ps := ["pot", "many"]) fun _ _ _ _ _ _ us hl => match us, hl with | [_, _], _ => rfl
  have F__law_pick := fun_mk (st := S__law_pick) l__law_pick e__law_pick k__law_pick
  have b__law_pick := F__law_pick.binds (ps := ["pot", "some"]) fun _ _ _ _ _ _ us hl => match us, hl with | [_, _], _ => rfl
  have F__law_term := fun_mk (st := S__law_term) l__law_term e__law_term k__law_term
  have b__law_term := F__law_term.binds (ps := ["pot", "deep"]) fun _ _ _ _ _ _ us hl => match us, hl with | [_, _], _ => rfl
  have F__law_great := fun_mk (st := S__law_great) l__law_great e__law_great k__law_great
  have b__law_great := F__law_great.binds (ps := ["pot"]) fun _ _ _ _ _ _ us hl => match us, hl with | [_], _ => rfl
  have F__law_is_rest := fun_mk (st := S__law_is_rest) l__law_is_rest e__law_is_rest k__law_is_rest
  have b__law_is_rest := F__law_is_rest.binds (ps := ["value"]) fun _ _ _ _ _ _ us hl => match us, hl with | [_], _ => rfl
  have F__law_rows := fun_mk (st := S__law_rows) l__law_rows e__law_rows k__law_rows
  have b__law_rows := F__law_rows.binds (ps := ["term"]) fun _ _ _ _ _ _ us hl => match us, hl with | [_], _ => rfl
  have F__law_depth := fun_mk (st := S__law_depth) l__law_depth e__law_depth k__law_depth
  have b__law_depth := F__law_depth.binds (ps := ["term"]) fun _ _ _ _ _ _ us hl => match us, hl with | [_], _ => rfl
  have F__law_variables := fun_mk (st := S__law_variables) l__law_variables e__law_variables k__law_variables
  have b__law_variables := F__law_variables.binds (ps := ["rows"]) fun _ _ _ _ _ _ us hl => match us, hl with | [_], _ => rfl
  have F__law_some := fun_mk (st := S__law_some) l__law_some e__law_some k__law_some
  have b__law_some := F__law_some.binds (ps := ["pot", "rows", "many"]) fun _ _ _ _ _ _ us hl => match us, hl with | [_, _, _], _ => rfl
  have F__law_within_right := fun_mk (st := S__law_within_right) l__law_within_right e__law_within_right k__law_within_right
  have b__law_within_right := F__law_within_right.binds (ps := ["pot", "term", "path"]) fun _ _ _ _ _ _ us hl => match us, hl with | [_, _, _], _ => rfl
  have F_law := fun_mk (st := S_law) l_law e_law k_law
  have b_law := F_law.binds (ps := ["script"]) fun _ _ _ _ _ _ us hl => match us, hl with | [_], _ => rfl
  refine ⟨PySem.W.fnOf "law" "law" (defArgs S_law) (defBody S_law) (defScope S_law) .none kV_law dc_law pm_law an_law cd_law ct_law, fun s v => .of_eq rfl, fun base _ _ => ?_⟩
  have gc : GC mg := { b_abs := PySem.W.mg_none_of X G z_abs, b_all := PySem.W.mg_none_of X G z_all, b_bool := PySem.W.mg_none_of X G z_bool, b_divmod := PySem.W.mg_none_of X G z_divmod, b_enumerate := PySem.W.mg_none_of X G z_enumerate, b_int := PySem.W.mg_none_of X G z_int, b_isinstance := PySem.W.mg_none_of X G z_isinstance, b_len := PySem.W.mg_none_of X G z_len, b_max := PySem.W.mg_none_of X G z_max, b_range := PySem.W.mg_none_of X G z_range, b_repr := PySem.W.mg_none_of X G z_repr, b_sorted := PySem.W.mg_none_of X G z_sorted, b_str := PySem.W.mg_none_of X G z_str, b_tuple := PySem.W.mg_none_of X G z_tuple, c_DIGITS := ⟨_, PySem.W.mg_of X G c_DIGITS, ⟨_, rfl⟩⟩, c_GREAT := ⟨_, PySem.W.mg_of X G c_GREAT, ⟨_, rfl⟩⟩, c_HEAD := ⟨_, PySem.W.mg_of X G c_HEAD, ⟨_, rfl⟩⟩, c_MOST_DIGITS := ⟨_, PySem.W.mg_of X G c_MOST_DIGITS, ⟨_, rfl⟩⟩, c_MOST_SIGNS := ⟨_, PySem.W.mg_of X G c_MOST_SIGNS, ⟨_, rfl⟩⟩, c_REST := ⟨_, PySem.W.mg_of X G c_REST, ⟨_, rfl⟩⟩, c_SMALL := ⟨_, PySem.W.mg_of X G c_SMALL, ⟨_, rfl⟩⟩, c_TERM := ⟨_, PySem.W.mg_of X G c_TERM, ⟨_, rfl⟩⟩ }
  exact law_fn (g_all (P := l.prog) (w := w) (base := base) gc ⟨_, _, F_is_integer, PySem.W.mg_of X G a_is_integer, b_is_integer⟩ ⟨_, _, F_is_count, PySem.W.mg_of X G a_is_count, b_is_count⟩ ⟨_, _, F_is_name, PySem.W.mg_of X G a_is_name, b_is_name⟩ ⟨_, _, F_is_variable, PySem.W.mg_of X G a_is_variable, b_is_variable⟩ ⟨_, _, F_is_head, PySem.W.mg_of X G a_is_head, b_is_head⟩ ⟨_, _, F_is_rest, PySem.W.mg_of X G a_is_rest, b_is_rest⟩ ⟨_, _, F_is_applied, PySem.W.mg_of X G a_is_applied, b_is_applied⟩ ⟨_, _, F_standings, PySem.W.mg_of X G a_standings, b_standings⟩ ⟨_, _, F_have_one_sort, PySem.W.mg_of X G a_have_one_sort, b_have_one_sort⟩ ⟨_, _, F_pieces, PySem.W.mg_of X G a_pieces, b_pieces⟩ ⟨_, _, F_variables_of, PySem.W.mg_of X G a_variables_of, b_variables_of⟩ ⟨_, _, F_nodes_of, PySem.W.mg_of X G a_nodes_of, b_nodes_of⟩ ⟨_, _, F_depth_of, PySem.W.mg_of X G a_depth_of, b_depth_of⟩ ⟨_, _, F_paths_of, PySem.W.mg_of X G a_paths_of, b_paths_of⟩ ⟨_, _, F_part_of, PySem.W.mg_of X G a_part_of, b_part_of⟩ ⟨_, _, F_is_path_of, PySem.W.mg_of X G a_is_path_of, b_is_path_of⟩ ⟨_, _, F_is_term, PySem.W.mg_of X G a_is_term, b_is_term⟩ ⟨_, _, F_want_term, PySem.W.mg_of X G a_want_term, b_want_term⟩ ⟨_, _, F_variables, PySem.W.mg_of X G a_variables, b_variables⟩ ⟨_, _, F_nodes, PySem.W.mg_of X G a_nodes, b_nodes⟩ ⟨_, _, F_depth, PySem.W.mg_of X G a_depth, b_depth⟩ ⟨_, _, F_paths, PySem.W.mg_of X G a_paths, b_paths⟩ ⟨_, _, F_part_at, PySem.W.mg_of X G a_part_at, b_part_at⟩ ⟨_, _, F__law_pot, PySem.W.mg_of X G a__law_pot, b__law_pot⟩ ⟨_, _, F__law_draw, PySem.W.mg_of X G a__law_draw, b__law_draw⟩ ⟨_, _, F__law_pick, PySem.W.mg_of X G a__law_pick, b__law_pick⟩ ⟨_, _, F__law_term, PySem.W.mg_of X G a__law_term, b__law_term⟩ ⟨_, _, F__law_great, PySem.W.mg_of X G a__law_great, b__law_great⟩ ⟨_, _, F__law_is_rest, PySem.W.mg_of X G a__law_is_rest, b__law_is_rest⟩ ⟨_, _, F__law_rows, PySem.W.mg_of X G a__law_rows, b__law_rows⟩ ⟨_, _, F__law_depth, PySem.W.mg_of X G a__law_depth, b__law_depth⟩ ⟨_, _, F__law_variables, PySem.W.mg_of X G a__law_variables, b__law_variables⟩ ⟨_, _, F__law_some, PySem.W.mg_of X G a__law_some, b__law_some⟩ ⟨_, _, F__law_within_right, PySem.W.mg_of X G a__law_within_right, b__law_within_right⟩ ⟨_, _, F_law, PySem.W.mg_of X G a_law, b_law⟩ depth).f_law F_law (PySem.W.mg_of X G a_law)
theorem walk {l : PySem.W.OpenLaw} {q : Program} {loose : List Str} {XP : (Str → Option Value) → Heap → Prop} {YP : World → Heap → Prop} {d : DefRec} {K : Params → PySem.W.Frag} (hn : l.most = some 63) (hdf : d.params.defaults = [])
    (hrun : ∀ ns : List Int, ns.length ≤ 63 → ∃ μ, run T depth 34 [.dat (.scr ns)] [] = .ok (.dat (.bl true)) μ) (hY : ∀ (w : World) (h : Heap), YP w h → (K w.params).In h)
    (F : ∀ (w : World) (mg : Str → Option Value) (fa : Addr) (h : Heap), (K w.params).In h → h.Ns mainGlobals mg → mg d.name = some (.ref fa) →
      ∃ fd : FuncData, (∀ (s : Shared) (u : Value), BindsTo s fd ⟨[u], []⟩ [("script", u)]) ∧ ∀ base : Heap, (K w.params).In base → base.Ns mainGlobals mg → FnG l.prog w (K w.params) mg base CX0 depth fa fd ["script"] (spF (K w.params) (fun _ => 0) (run T depth) 34 1)) :
    PySem.W.WalkO q loose XP YP l.row.toRowW d [] (fun f vs => PySem.call f vs) :=
  top_walk (n := 63) (k := depth) (x := "script") (CX := fun _ => CX0) (sp := fun w => spF (K w.params) (fun _ => 0) (run T depth) 34 1) hn (by decide) hdf ⟨rfl, by decide, by decide⟩ hY F (fun _ _ a ns hl _ hS => law_sp hS (hrun ns hl)) fun _ _ _ _ _ z => z
end Law
set_option maxHeartbeats 0
/-! k12, the plain law: the drawn terms and the single tests. -/
namespace K12
open VM Law
open L2 (atI ixN)

/-! ### 1. terms -/
inductive Tm where
  | num (i : Int)
  | var (x : Fin 3)
  | rst (x : Fin 3)
  | app (h : Fin 6) (as : List Tm)
def vS : Fin 3 → PySem.Str
  | 0 => "X" | 1 => "Y" | 2 => "Z12"
def rS : Fin 3 → PySem.Str
  | 0 => "*S" | 1 => "*T" | 2 => "*S9"
def rV : Fin 3 → PySem.Str
  | 0 => "S" | 1 => "T" | 2 => "S9"
def hS : Fin 6 → PySem.Str
  | 0 => "a" | 1 => "f" | 2 => "g" | 3 => "p1" | 4 => "H" | 5 => "K"
def hV : Fin 6 → Bool
  | 4 => true | 5 => true | _ => false
mutual
def Tm.d : Tm → D
  | .num i => .int i
  | .var x => .str (vS x)
  | .rst x => .str (rS x)
  | .app h as => .tup [.str (hS h), .tup (ds as)]
def ds : List Tm → List D
  | [] => []
  | t :: ts => t.d :: ds ts
end
def isV : Tm → Bool
  | .var _ => true
  | _ => false
def isR : Tm → Bool
  | .rst _ => true
  | _ => false
def isA : Tm → Bool
  | .app _ _ => true
  | _ => false
def isN : Tm → Bool
  | .num _ => true
  | _ => false
theorem ds_map : ∀ ts : List Tm, ds ts = ts.map Tm.d
  | [] => rfl
  | t :: ts => by
    unfold ds
    rw [ds_map ts]; rfl

/-! ### 2. calls -/
theorem run_at {n i nl : Nat} {b : SS} {vs : List SV} {μ : Sto} (h : T[i]? = some (nl, b)) : VM.run T (n + 1) i vs μ = callEnd μ.length (b (VM.run T n) (startE nl vs) μ) := by
  show (match T[i]? with | some (nl, b) => callF nl b (VM.run T n) vs μ | none => .bad) = _
  rw [h]; rfl
theorem pure_of {n i : Nat} {vs : List SV} {μ : Sto} {v : EV} (h : VM.run T n i vs μ = .ok v (μ.take μ.length)) : VM.run T n i vs μ = .ok v μ := by
  rw [h, List.take_length]
theorem pure2 {n i : Nat} {vs : List SV} {μ : Sto} {v : EV} (h : VM.run T n i vs μ = .ok v ((μ.take μ.length).take μ.length)) : VM.run T n i vs μ = .ok v μ := by
  rw [h, List.take_length, List.take_length]
theorem pure3 {n i : Nat} {vs : List SV} {μ : Sto} {v : EV} (h : VM.run T n i vs μ = .ok v (((μ.take μ.length).take (μ.take μ.length).length).take μ.length)) : VM.run T n i vs μ = .ok v μ := by
  rw [h, List.take_length, List.take_length, List.take_length]
section
variable {n : Nat} {μ : Sto}
theorem s_isInt : ∀ t : Tm, VM.run T (n + 1) 0 [.dat t.d] μ = .ok (.dat (.bl (isN t))) μ
  | .num i => pure_of (by kernel_rfl)
  | .var x => pure_of (by kernel_rfl)
  | .rst x => pure_of (by kernel_rfl)
  | .app h as => pure_of (by kernel_rfl)
theorem s_isVar : ∀ t : Tm, VM.run T (n + 1) 3 [.dat t.d] μ = .ok (.dat (.bl (isV t))) μ
  | .num i => pure_of (by kernel_rfl)
  | .var 0 => pure_of (by kernel_rfl)
  | .var 1 => pure_of (by kernel_rfl)
  | .var 2 => pure_of (by kernel_rfl)
  | .rst 0 => pure_of (by kernel_rfl)
  | .rst 1 => pure_of (by kernel_rfl)
  | .rst 2 => pure_of (by kernel_rfl)
  | .app h as => pure_of (by kernel_rfl)
theorem s_isRest : ∀ t : Tm, VM.run T (n + 2) 5 [.dat t.d] μ = .ok (.dat (.bl (isR t))) μ
  | .num i => pure_of (by kernel_rfl)
  | .var 0 => pure_of (by kernel_rfl)
  | .var 1 => pure_of (by kernel_rfl)
  | .var 2 => pure_of (by kernel_rfl)
  | .rst 0 => pure2 (by kernel_rfl)
  | .rst 1 => pure2 (by kernel_rfl)
  | .rst 2 => pure2 (by kernel_rfl)
  | .app h as => pure_of (by kernel_rfl)
theorem s_isApp : ∀ t : Tm, VM.run T (n + 1) 6 [.dat t.d] μ = .ok (.dat (.bl (isA t))) μ
  | .num i => pure_of (by kernel_rfl)
  | .var x => pure_of (by kernel_rfl)
  | .rst x => pure_of (by kernel_rfl)
  | .app h as => pure_of (by kernel_rfl)
theorem s_isHead : ∀ h : Fin 6, VM.run T (n + 2) 4 [.dat (.str (hS h))] μ = .ok (.dat (.bl true)) μ
  | 0 => pure2 (by kernel_rfl)
  | 1 => pure2 (by kernel_rfl)
  | 2 => pure2 (by kernel_rfl)
  | 3 => pure2 (by kernel_rfl)
  | 4 => pure3 (by kernel_rfl)
  | 5 => pure3 (by kernel_rfl)
theorem s_headVar : ∀ h : Fin 6, VM.run T (n + 1) 3 [.dat (.str (hS h))] μ = .ok (.dat (.bl (hV h))) μ
  | 0 => pure_of (by kernel_rfl)
  | 1 => pure_of (by kernel_rfl)
  | 2 => pure_of (by kernel_rfl)
  | 3 => pure_of (by kernel_rfl)
  | 4 => pure_of (by kernel_rfl)
  | 5 => pure_of (by kernel_rfl)
theorem l_isRest : ∀ t : Tm, VM.run T (n + 1) 28 [.dat t.d] μ = .ok (.dat (.bl (isR t))) μ
  | .num i => pure_of (by kernel_rfl)
  | .var 0 => pure_of (by kernel_rfl)
  | .var 1 => pure_of (by kernel_rfl)
  | .var 2 => pure_of (by kernel_rfl)
  | .rst 0 => pure_of (by kernel_rfl)
  | .rst 1 => pure_of (by kernel_rfl)
  | .rst 2 => pure_of (by kernel_rfl)
  | .app h as => pure_of (by kernel_rfl)
end
end K12
set_option maxHeartbeats 0
namespace K12
open VM Law
open L2 (atI ixN)
mutual
def sz : Tm → Nat
  | .app _ as => 1 + szs as
  | _ => 1
def szs : List Tm → Nat
  | [] => 0
  | t :: ts => sz t + szs ts
end
mutual
def dep : Tm → Nat
  | .app _ as => 1 + deps as
  | _ => 1
def deps : List Tm → Nat
  | [] => 0
  | t :: ts => max (dep t) (deps ts)
end
mutual
/-- the parts with their levels, from the left -/
def pcs : Nat → Tm → List D
  | l, .app h as => .tup [Tm.d (.app h as), .int l] :: pcss (l + 1) as
  | l, .num i => [.tup [.int i, .int l]]
  | l, .var x => [.tup [.str (vS x), .int l]]
  | l, .rst x => [.tup [.str (rS x), .int l]]
def pcss : Nat → List Tm → List D
  | _, [] => []
  | l, t :: ts => pcs l t ++ pcss l ts
end
theorem pcss_flat : ∀ (l : Nat) (ts : List Tm), pcss l ts = (ts.map fun t => (t, l)).flatMap fun p => pcs p.2 p.1
  | _, [] => by simp [pcss]
  | l, t :: ts => by
    simp only [pcss, List.map_cons, List.flatMap_cons]
    rw [pcss_flat l ts]
theorem szs_sum : ∀ ts : List Tm, szs ts = (ts.map sz).sum
  | [] => by simp [szs]
  | t :: ts => by
    simp only [szs, List.map_cons, List.sum_cons]
    rw [szs_sum ts]
theorem deps_mem : ∀ {ts : List Tm} {t : Tm}, t ∈ ts → dep t ≤ deps ts
  | t' :: ts, t, h => by
    simp only [deps]
    rcases List.mem_cons.mp h with rfl | h
    · omega
    · have := deps_mem h
      omega
theorem sz_pos : ∀ t : Tm, 1 ≤ sz t
  | .app _ _ => by simp only [sz]; omega
  | .num _ => by simp [sz]
  | .var _ => by simp [sz]
  | .rst _ => by simp [sz]
/-! what == may be asked of -/
theorem vS_fits (x : Fin 3) (n : Nat) : fits n (.str (vS x)) = true := by
  have : ((vS x).cps.toList.all fun c => decide (c < 0x110000)) = true := by revert x; decide +kernel
  cases n <;> simpa only [fits] using this
theorem rS_fits (x : Fin 3) (n : Nat) : fits n (.str (rS x)) = true := by
  have : ((rS x).cps.toList.all fun c => decide (c < 0x110000)) = true := by revert x; decide +kernel
  cases n <;> simpa only [fits] using this
theorem hS_fits (x : Fin 6) (n : Nat) : fits n (.str (hS x)) = true := by
  have : ((hS x).cps.toList.all fun c => decide (c < 0x110000)) = true := by revert x; decide +kernel
  cases n <;> simpa only [fits] using this
mutual
theorem d_fits : ∀ (t : Tm) (n : Nat), 2 * dep t ≤ n → fits n t.d = true
  | .num i, n, _ => by cases n <;> simp [Tm.d, fits]
  | .var x, n, _ => vS_fits x n
  | .rst x, n, _ => rS_fits x n
  | .app h as, n, hn => by
    simp only [dep] at hn
    obtain ⟨k, rfl⟩ : ∃ k, n = k + 2 := ⟨n - 2, by omega⟩
    have h1 := hS_fits h (k + 1)
    have h2 := ds_fits as k (by omega)
    simp only [fits] at h1
    simp only [Tm.d, fits, fitsAll, h1, h2, Bool.true_and, Bool.and_true]
theorem ds_fits : ∀ (ts : List Tm) (n : Nat), 2 * deps ts ≤ n → fitsAll n (ds ts) = true
  | [], n, _ => by simp [ds, fitsAll]
  | t :: ts, n, hn => by
    simp only [deps] at hn
    simp only [ds, fitsAll, Bool.and_eq_true]
    exact ⟨d_fits t n (by omega), ds_fits ts n (by omega)⟩
end
theorem fitsAll_mem : ∀ {l : List D} {n : Nat}, (∀ d ∈ l, fits n d = true) → fitsAll n l = true
  | [], n, _ => by simp [fitsAll]
  | d :: l, n, h => by
    simp only [fitsAll, Bool.and_eq_true]
    exact ⟨h d List.mem_cons_self, fitsAll_mem fun e he => h e (List.mem_cons_of_mem _ he)⟩
/-- the stack is not empty -/
theorem ne_nil {l : List D} (h : ∀ d ∈ l, fits 63 d = true) : opCmp .NotEq (.lst l) (.lst []) = some (!l.isEmpty) := by
  simp only [opCmp, opEq, txEq]
  have h1 : fits 64 (.lst l) = true := by simp only [fits]; exact fitsAll_mem h
  have h2 : fits 64 (.lst []) = true := by simp [fits, fitsAll]
  rw [h1, h2]
  cases l <;> simp [eqv, eqvs]
theorem lim1 {n : Nat} (h : n ≤ 1000) : n ≤ LIM := Nat.le_trans h (by decide)
theorem lim2 {n : Nat} (h : n ≤ 1000) : n < LIM := Nat.lt_of_le_of_lt h (by decide)
section
variable {n : Nat} {μ : Sto}
def encP (p : Tm × Nat) : D := .tup [p.1.d, .int p.2]
def kidP (p : Tm × Nat) : List (Tm × Nat) := match p.1 with
  | .app _ as => as.map fun t => (t, p.2 + 1)
  | _ => []
theorem s_pieces (t : Tm) (hd : dep t ≤ 25) (hs : sz t ≤ 900) : VM.run T (n + 2) 9 [.dat t.d] μ = .ok (.new (.lst (pcs 1 t))) μ := by
  rw [run_at (nl := 6) (b := P_pieces) (by rfl)]
  unfold P_pieces
  have loop := stack_loop (μ := μ) encP (fun p => [encP p]) kidP (fun p => pcs p.2 p.1) (fun p => sz p.1) (fun p => dep p.1 ≤ 25) (fun ρ => ∃ o0 o3 o4 o5, ρ = [o0, some (.cel μ.length), some (.cel (μ.length + 1)), o3, o4, o5]) 900
    (c := (bCmp (opCmp .NotEq) (eV 2) (eLst (evs []))) (VM.run T (n + 1)))
    (b := (sSeq (sAsg (eCM aPop (eV 2) (evs [])) (gTp [gNm 3, gNm 4])) (sSeq (sDrop (eCM aAppend (eV 1) (evs [eTup (evs [eV 3, eV 4])]))) (sIf (bTru (eCall 6 (evs [eV 3]))) (sDrop (eCM aExtend (eV 2) (evs [eLc (iOf (eRev (eIx (eV 3) (eC (.int 1))))) (.nm 5) (bYes) (eTup (evs [eV 5, eBin .Add (eV 4) (eC (.int 1))])) [5]]))) (sPass)))) (VM.run T (n + 1)))
    ?_ ?_ ?_ ?_ ?_ ?_ (sz t) LIM [some (.dat t.d), some (.cel μ.length), some (.cel (μ.length + 1)), none, none, none] [] [(t, 1)] ⟨_, _, _, _, rfl⟩ (by simpa using hd) (by simp) (lim2 (by omega)) (by simpa using hs)
  · obtain ⟨ρ', ⟨o0, o3, o4, o5, rfl⟩, e⟩ := loop
    simp [startE]
    simp [stk, encP] at e
    rw [e]
    simp [callEnd, EV.out]
  · rintro ⟨t, l⟩ _
    cases t <;> simp [pcs, kidP, encP, Tm.d, pcss_flat]
  · rintro ⟨t, l⟩ _
    cases t <;> simp [sz, kidP]
    rw [szs_sum]
    simp [Function.comp_def]
  · rintro ⟨t, l⟩ _
    cases t <;> simp [sz, kidP]
    rw [szs_sum]
    simp [Function.comp_def]
  · rintro ⟨t, l⟩ h ⟨t', l'⟩ hy
    cases t <;> simp [kidP] at hy
    rename_i hh as
    have h : dep (.app hh as) ≤ 25 := h
    simp only [dep] at h
    obtain ⟨t0, hm0, e0⟩ : ∃ t0, t0 ∈ as ∧ t0 = t' := by
      first
        | exact ⟨_, hm, rfl⟩
        | (obtain ⟨a, b, c⟩ := hy; exact ⟨_, b, c.1⟩)
        | exact ⟨_, hy.1, rfl⟩
    subst e0
    have := deps_mem hm0
    show dep t0 ≤ 25
    omega
  · rintro ρ Fd L ⟨o0, o3, o4, o5, rfl⟩ hg
    have hf : ∀ d ∈ (L.map encP).reverse, fits 63 d = true := fun d hd => by
      obtain ⟨p, hp, rfl⟩ := List.mem_map.mp (List.mem_reverse.mp hd)
      simp only [encP, fits, fitsAll, Bool.and_true]
      exact d_fits p.1 62 (by have := hg p hp; omega)
    simp [stk, EV.see, ne_nil hf]
  · rintro ρ Fd ⟨t, l⟩ L ⟨o0, o3, o4, o5, rfl⟩ hg hgl hB
    refine ⟨[o0, some (.cel μ.length), some (.cel (μ.length + 1)), some (.dat t.d), some (.dat (.int l)), o5], ⟨_, _, _, _, rfl⟩, ?_⟩
    have hF : Fd.length < LIM := lim2 (by have := sz_pos t; omega)
    cases t with
    | num i => simp [stk, encP, aAppend_c hF, s_isApp, isA, kidP]
    | var x => simp [stk, encP, aAppend_c hF, s_isApp, isA, kidP]
    | rst x => simp [stk, encP, aAppend_c hF, s_isApp, isA, kidP]
    | app h as =>
      have hl : as.length ≤ szs as := by
        clear hB hg
        induction as with
        | nil => simp
        | cons t as ih =>
          have := sz_pos t
          simp only [szs, List.length_cons]
          omega
      have hB' : szs as ≤ 900 := by
        simp only [sz] at hB
        omega
      have hdl : (ds as).length = as.length := by rw [ds_map, List.length_map]
      have lc := lc_map (s := (ds as).reverse) (step := lcStep (VM.run T (n + 1)) (.nm 5) bYes (eTup (evs [eV 5, eBin .Add (eV 4) (eC (.int 1))])) (wipeE [o0, some (.cel μ.length), some (.cel (μ.length + 1)), some (.dat (Tm.app h as).d), some (.dat (.int l)), o5] [5]))
        (g := fun d => .tup [d, .int (l + 1)]) (μ := μ ++ [⟨true, .lst (Fd ++ [.tup [(Tm.app h as).d, .int l]])⟩, ⟨true, .lst (L.map encP).reverse⟩]) (fun d hd => by simp [wipeE, asg, addI]) (by rw [List.length_reverse, hdl]; exact lim1 (by omega))
      rw [List.length_reverse] at lc
      have ixa : opIx (Tm.app h as).d (.int 1) = some (.dat (.tup (ds as))) := by simp only [Tm.d]; exact ix1
      have hLl : (L.map encP).length ≤ 900 := by
        have : L.length ≤ (L.map fun p => sz p.1).sum := by
          clear hB hgl lc
          induction L with
          | nil => simp
          | cons p L ih =>
            have := sz_pos p.1
            simp only [List.map_cons, List.sum_cons, List.length_cons]
            omega
        rw [List.length_map]
        omega
      have ex := aExtend_c (l := (L.map encP).reverse) (e := ((ds as).map fun d => .tup [d, .int (l + 1)]).reverse) (by
        rw [List.length_reverse, List.length_reverse, List.length_map (as := ds as), hdl]
        exact Nat.le_trans (Nat.add_le_add hLl (by omega : as.length ≤ 900)) (by decide))
      have lm : (ds as).length ≤ LIM := by rw [hdl]; exact lim1 (by omega)
      have fin : (List.map encP (kidP (Tm.app h as, l))) = (ds as).map fun d => D.tup [d, .int (l + 1)] := by
        simp [kidP, ds_map, encP]
      simp only [stk, List.map_append, fin, List.reverse_append, List.map_cons, List.reverse_cons]
      simp [encP, aAppend_c hF, s_isApp, isA, ixa, lc, lm, ex]
end
end K12
set_option maxHeartbeats 0
namespace K12
open VM Law
open L2 (atI ixN)
/-! paths -/
def pD (p : List Nat) : D := .tup (p.map fun i => .int (i : Nat))
mutual
/-- the parts with their paths, from the left -/
def pre : List Nat → Tm → List (List Nat × Tm)
  | p, .app h as => (p, .app h as) :: pres p 0 as
  | p, .num i => [(p, .num i)]
  | p, .var x => [(p, .var x)]
  | p, .rst x => [(p, .rst x)]
def pres : List Nat → Nat → List Tm → List (List Nat × Tm)
  | _, _, [] => []
  | p, i, t :: ts => pre (p ++ [i]) t ++ pres p (i + 1) ts
end
/-- the children with their places -/
def kidsAt (p : List Nat) : Nat → List Tm → List (List Nat × Tm)
  | _, [] => []
  | i, t :: ts => (p ++ [i], t) :: kidsAt p (i + 1) ts
theorem pres_flat (p : List Nat) : ∀ (i : Nat) (ts : List Tm), pres p i ts = (kidsAt p i ts).flatMap fun q => pre q.1 q.2
  | _, [] => by simp [pres, kidsAt]
  | i, t :: ts => by
    simp only [pres, kidsAt, List.flatMap_cons]
    rw [pres_flat p (i + 1) ts]
/-- what paths_of puts aside: the children that are no rests, the last one first out -/
def encQ (q : List Nat × Tm) : D := .tup [pD q.1, q.2.d]
def kidQ (q : List Nat × Tm) : List (List Nat × Tm) := match q.2 with
  | .app _ as => ((kidsAt q.1 0 as).filter fun x => !isR x.2).reverse
  | _ => []
mutual
/-- paths_of's own order -/
def allQ : List Nat → Tm → List (List Nat)
  | p, .app h as => p :: allQs p 0 as
  | p, .num i => [p]
  | p, .var x => [p]
  | p, .rst x => [p]
def allQs : List Nat → Nat → List Tm → List (List Nat)
  | _, _, [] => []
  | p, i, t :: ts => allQs p (i + 1) ts ++ (if isR t then [] else allQ (p ++ [i]) t)
end
theorem allQs_flat (p : List Nat) : ∀ (i : Nat) (ts : List Tm), allQs p i ts = (((kidsAt p i ts).filter fun x => !isR x.2).reverse).flatMap fun q => allQ q.1 q.2
  | _, [] => by simp [allQs, kidsAt]
  | i, t :: ts => by
    simp only [allQs, kidsAt]
    rw [allQs_flat p (i + 1) ts]
    by_cases h : isR t = true
    · rw [if_pos h, List.filter_cons_of_neg (by simp [h])]
      simp
    · rw [if_neg h, List.filter_cons_of_pos (by simp [h])]
      simp [List.flatMap_append]
theorem kids_mem {p : List Nat} : ∀ {i : Nat} {ts : List Tm} {q : List Nat × Tm}, q ∈ kidsAt p i ts → q.2 ∈ ts ∧ q.1.length = p.length + 1
  | i, [], q, h => by simp [kidsAt] at h
  | i, t :: ts, q, h => by
    simp only [kidsAt] at h
    rcases List.mem_cons.mp h with rfl | h
    · exact ⟨List.mem_cons_self, by simp⟩
    · obtain ⟨h1, h2⟩ := kids_mem h
      exact ⟨List.mem_cons_of_mem _ h1, h2⟩
theorem kids_sz (p : List Nat) : ∀ (i : Nat) (ts : List Tm), ((((kidsAt p i ts).filter fun x => !isR x.2).reverse).map fun q => sz q.2).sum ≤ szs ts
  | _, [] => by simp [kidsAt]
  | i, t :: ts => by
    have ih := kids_sz p (i + 1) ts
    simp only [kidsAt, szs]
    by_cases h : isR t = true
    · rw [List.filter_cons_of_neg (by simp [h])]
      omega
    · rw [List.filter_cons_of_pos (by simp [h])]
      simp only [List.reverse_cons, List.map_append, List.sum_append, List.map_cons, List.map_nil, List.sum_cons, List.sum_nil]
      omega
theorem len_szs : ∀ as : List Tm, as.length ≤ szs as
  | [] => by simp
  | t :: as => by
    have := sz_pos t
    have := len_szs as
    simp only [szs, List.length_cons]
    omega
theorem sum_len {α : Type} {f : α → Nat} (h : ∀ x, 1 ≤ f x) : ∀ L : List α, L.length ≤ (L.map f).sum
  | [] => by simp
  | x :: L => by
    have := h x
    have := sum_len h L
    simp only [List.map_cons, List.sum_cons, List.length_cons]
    omega
theorem pD_fits (p : List Nat) (n : Nat) : fits (n + 1) (pD p) = true := by
  simp only [pD, fits]
  exact fitsAll_mem fun d hd => by
    obtain ⟨i, _, rfl⟩ := List.mem_map.mp hd
    cases n <;> simp [fits]
theorem pD_app (p : List Nat) (i : Nat) (h : p.length ≤ 100) : opBin .Add (pD p) (.tup [.int (i : Nat)]) = some (.dat (pD (p ++ [i]))) := by
  have hl : (p.map fun i => D.int (i : Nat)).length + [D.int (i : Nat)].length ≤ LIM := by
    rw [List.length_map, List.length_singleton]; exact lim1 (by omega)
  show (if (p.map fun i => D.int (i : Nat)).length + [D.int (i : Nat)].length ≤ LIM then some (EV.dat (.tup ((p.map fun i => D.int (i : Nat)) ++ [.int (i : Nat)]))) else none) = _
  rw [if_pos hl, pD, List.map_append]; rfl
section
variable {n : Nat} {μ : Sto}
/-- the comprehension over the enumerated children -/
theorem lc_kids {step : D → Sto → Res (Option D)} {p : List Nat} {μ : Sto} : ∀ (ts : List Tm) (i : Nat), (∀ (j : Nat) (t : Tm), t ∈ ts → step (.tup [.int (j : Nat), t.d]) μ = .ok (if isR t then none else some (encQ (p ++ [j], t))) μ) →
    (((ds ts).zipIdx i).map fun x => D.tup [.int (x.2 : Nat), x.1]).filterMap (fun d => match step d μ with | .ok o _ => o | _ => none) = ((kidsAt p i ts).filter fun x => !isR x.2).map encQ
  | [], i, h => by simp [ds, kidsAt]
  | t :: ts, i, h => by
    have ih := lc_kids (step := step) (p := p) (μ := μ) ts (i + 1) fun j t ht => h j t (List.mem_cons_of_mem _ ht)
    have h0 := h i t List.mem_cons_self
    simp only [ds, List.zipIdx_cons, List.map_cons, List.filterMap_cons, h0, kidsAt]
    by_cases c : isR t = true
    · rw [if_pos c, List.filter_cons_of_neg (by simp [c])]
      exact ih
    · rw [if_neg c, List.filter_cons_of_pos (by simp [c]), List.map_cons]
      exact congrArg _ ih
theorem enum_mem : ∀ (ts : List Tm) (i : Nat) (d : D), d ∈ (((ds ts).zipIdx i).map fun x => D.tup [.int (x.2 : Nat), x.1]) → ∃ (j : Nat) (t : Tm), t ∈ ts ∧ d = .tup [.int (j : Nat), t.d]
  | [], i, d, h => by simp [ds] at h
  | t :: ts, i, d, h => by
    simp only [ds, List.zipIdx_cons, List.map_cons] at h
    rcases List.mem_cons.mp h with rfl | h
    · exact ⟨i, t, List.mem_cons_self, rfl⟩
    · obtain ⟨j, t', ht, e⟩ := enum_mem ts (i + 1) d h
      exact ⟨j, t', List.mem_cons_of_mem _ ht, e⟩
theorem ds_len (as : List Tm) : (ds as).length = as.length := by rw [ds_map, List.length_map]
theorem lc_enum {step : D → Sto → Res (Option D)} {p : List Nat} {μ : Sto} {as : List Tm} (h : ∀ (j : Nat) (t : Tm), t ∈ as → step (.tup [.int (j : Nat), t.d]) μ = .ok (if isR t then none else some (encQ (p ++ [j], t))) μ) (hl : as.length ≤ 900) :
    lcLoop (.vals (enumD (ds as))) step (as.length + 1) 0 μ = .ok (((kidsAt p 0 as).filter fun x => !isR x.2).map encQ) μ := by
  have e := lc_pure (s := enumD (ds as)) (step := step) (g := fun d => match step d μ with | .ok o _ => o | _ => none) (μ := μ) (fun d hd => ?_) (as.length + 1) 0 (Nat.zero_le _) (by rw [enumD_len, ds_len]; omega) (by rw [enumD_len, ds_len]; exact lim1 (by omega))
  · rw [e, List.drop_zero]
    unfold enumD
    rw [lc_kids as 0 h]
  · obtain ⟨j, t, ht, rfl⟩ := enum_mem as 0 d hd
    rw [h j t ht]
theorem ix_app {h : Fin 6} {as : List Tm} : opIx (Tm.app h as).d (.int 1) = some (.dat (.tup (ds as))) := by simp only [Tm.d]; exact ix1
theorem ix_app0 {h : Fin 6} {as : List Tm} : opIx (Tm.app h as).d (.int 0) = some (.dat (.str (hS h))) := by simp only [Tm.d]; exact ix0
def iP (p : List Nat) : List Int := p.map fun i => Int.ofNat i
theorem pD_of (p : List Nat) : pD p = ofTup (iP p) := by simp only [pD, ofTup, iP, List.map_map]; rfl
theorem tupsD_of : ∀ l : List (List Nat), tupsD (l.map pD) = some (l.map iP)
  | [] => rfl
  | p :: l => by
    have h1 : intsD (p.map fun i => D.int (i : Nat)) = some (iP p) := by
      induction p with
      | nil => rfl
      | cons i p ih =>
        simp only [List.map_cons, intsD, ih, iP]
        rfl
    have h2 := tupsD_of l
    simp only [List.map_cons]
    show (match intsD (p.map fun i => D.int (i : Nat)), tupsD (l.map pD) with | some n, some r => some (n :: r) | _, _ => none) = _
    rw [h1, h2]
mutual
theorem allQ_len : ∀ (p : List Nat) (t : Tm), (allQ p t).length ≤ sz t
  | p, .app h as => by
    have := allQs_len p 0 as
    simp only [allQ, sz, List.length_cons]
    omega
  | p, .num i => by simp [allQ, sz]
  | p, .var x => by simp [allQ, sz]
  | p, .rst x => by simp [allQ, sz]
theorem allQs_len : ∀ (p : List Nat) (i : Nat) (ts : List Tm), (allQs p i ts).length ≤ szs ts
  | p, i, [] => by simp [allQs]
  | p, i, t :: ts => by
    have h1 := allQs_len p (i + 1) ts
    have h2 := allQ_len (p ++ [i]) t
    simp only [allQs, szs, List.length_append]
    split
    · simp only [List.length_nil]; omega
    · omega
end
theorem s_paths_of (t : Tm) (hd : dep t ≤ 25) (hs : sz t ≤ 900) : VM.run T (n + 3) 13 [.dat t.d] μ = .ok (.new (.lst ((sortL ((allQ [] t).map iP)).map ofTup))) μ := by
  rw [run_at (nl := 7) (b := P_paths_of) (by rfl)]
  unfold P_paths_of
  have loop := stack_loop (μ := μ) encQ (fun q => [pD q.1]) kidQ (fun q => (allQ q.1 q.2).map pD) (fun q => sz q.2) (fun q => dep q.2 + q.1.length ≤ 25) (fun ρ => ∃ o0 o3 o4 o5 o6, ρ = [o0, some (.cel μ.length), some (.cel (μ.length + 1)), o3, o4, o5, o6]) 900
    (c := (bCmp (opCmp .NotEq) (eV 2) (eLst (evs []))) (VM.run T (n + 2)))
    (b := (sSeq (sAsg (eCM aPop (eV 2) (evs [])) (gTp [gNm 3, gNm 4])) (sSeq (sDrop (eCM aAppend (eV 1) (evs [eV 3]))) (sIf (bTru (eCall 6 (evs [eV 4]))) (sDrop (eCM aExtend (eV 2) (evs [eLc (iEnm (eIx (eV 4) (eC (.int 1)))) (.tup [.nm 5, .nm 6]) (bNot (bTru (eCall 5 (evs [eV 6])))) (eTup (evs [eBin .Add (eV 3) (eTup (evs [eV 5])), eV 6])) [5, 6]]))) (sPass)))) (VM.run T (n + 2)))
    ?_ ?_ ?_ ?_ ?_ ?_ (sz t) LIM [some (.dat t.d), some (.cel μ.length), some (.cel (μ.length + 1)), none, none, none, none] [] [([], t)] ⟨_, _, _, _, _, rfl⟩ (by simpa using hd) (by simp) (lim2 (by omega)) (by simpa using hs)
  · obtain ⟨ρ', ⟨o0, o3, o4, o5, o6, rfl⟩, e⟩ := loop
    have ln : (allQ [] t).length ≤ 900 := Nat.le_trans (allQ_len [] t) hs
    have fs : fSorted [.lst ((allQ [] t).map pD)] = some (.new (.lst ((sortL ((allQ [] t).map iP)).map ofTup))) := by
      show (if ((allQ [] t).map pD).length ≤ LIM then (tupsD ((allQ [] t).map pD)).map fun n => EV.new (.lst ((sortL n).map ofTup)) else none) = _
      rw [if_pos (by rw [List.length_map]; exact lim1 (by omega)), tupsD_of]; rfl
    simp [startE]
    simp [stk, encQ, pD] at e
    rw [e]
    simp [callEnd, EV.out, EV.see, fs]
  · rintro ⟨p, t⟩ _
    cases t <;> simp [allQ, kidQ, allQs_flat, List.map_flatMap]
  · rintro ⟨p, t⟩ _
    cases t <;> simp [sz, kidQ]
    rename_i h as _
    have := kids_sz p 0 as
    simpa using this
  · rintro ⟨p, t⟩ _
    cases t <;> simp [sz, kidQ]
    rename_i h as _
    have := kids_sz p 0 as
    simpa using this
  · rintro ⟨p, t⟩ h ⟨p', t'⟩ hy
    cases t <;> simp [kidQ] at hy
    rename_i hh as
    have h : dep (.app hh as) + p.length ≤ 25 := h
    simp only [dep] at h
    obtain ⟨h1, h2⟩ := kids_mem hy.1
    have := deps_mem h1
    show dep t' + p'.length ≤ 25
    have h2 : p'.length = p.length + 1 := h2
    have h3 : dep t' ≤ deps as := this
    omega
  · rintro ρ Fd L ⟨o0, o3, o4, o5, o6, rfl⟩ hg
    have hf : ∀ d ∈ (L.map encQ).reverse, fits 63 d = true := fun d hd => by
      obtain ⟨q, hq, rfl⟩ := List.mem_map.mp (List.mem_reverse.mp hd)
      simp only [encQ, fits, fitsAll, Bool.and_true, Bool.and_eq_true]
      exact ⟨pD_fits _ 61, d_fits q.2 62 (by have := hg q hq; omega)⟩
    simp [stk, EV.see, ne_nil hf]
  · rintro ρ Fd ⟨p, t⟩ L ⟨o0, o3, o4, o5, o6, rfl⟩ hg hgl hB
    have hF : Fd.length < LIM := lim2 (by have := sz_pos t; omega)
    refine ⟨[o0, some (.cel μ.length), some (.cel (μ.length + 1)), some (.dat (pD p)), some (.dat t.d), o5, o6], ⟨_, _, _, _, _, rfl⟩, ?_⟩
    cases t with
    | num i => simp [stk, encQ, aAppend_c hF, s_isApp, isA, kidQ]
    | var x => simp [stk, encQ, aAppend_c hF, s_isApp, isA, kidQ]
    | rst x => simp [stk, encQ, aAppend_c hF, s_isApp, isA, kidQ]
    | app h as =>
      have hB' : Fd.length + (1 + szs as) + (L.map fun q => sz q.2).sum ≤ 900 := by simpa only [sz] using hB
      have hl := len_szs as
      have hg : dep (.app h as) + p.length ≤ 25 := hg
      have hp : p.length ≤ 100 := by omega
      have lc := lc_enum (as := as) (p := p) (step := lcStep (VM.run T (n + 2)) (.tup [.nm 5, .nm 6]) (bNot (bTru (eCall 5 (evs [eV 6])))) (eTup (evs [eBin .Add (eV 3) (eTup (evs [eV 5])), eV 6])) (wipeE [o0, some (.cel μ.length), some (.cel (μ.length + 1)), some (.dat (pD p)), some (.dat (Tm.app h as).d), o5, o6] [5, 6]))
        (μ := μ ++ [⟨true, .lst (Fd ++ [pD p])⟩, ⟨true, .lst (L.map encQ).reverse⟩]) (fun j t ht => by
          cases c : isR t <;> simp [wipeE, asg, asgs, s_isRest, c, pD_app p j hp, encQ]) (by omega)
      have hLl := sum_len (f := fun q : List Nat × Tm => sz q.2) (fun q => sz_pos q.2) L
      have hk : ((kidsAt p 0 as).filter fun x => !isR x.2).length ≤ 900 := by
        have h1 := sum_len (f := fun q : List Nat × Tm => sz q.2) (fun q => sz_pos q.2) ((kidsAt p 0 as).filter fun x => !isR x.2).reverse
        have h2 := kids_sz p 0 as
        rw [List.length_reverse] at h1
        omega
      have ex := aExtend_c (l := (L.map encQ).reverse) (e := ((kidsAt p 0 as).filter fun x => !isR x.2).map encQ) (by
        rw [List.length_reverse, List.length_map, List.length_map]
        exact Nat.le_trans (Nat.add_le_add (by omega : L.length ≤ 900) hk) (by decide))
      have lm : ((kidsAt p 0 as).filter fun x => !isR x.2).length ≤ LIM := lim1 (by omega)
      simp only [stk, kidQ, List.map_append, List.reverse_append, List.map_cons, List.reverse_cons, List.map_reverse, List.reverse_reverse]
      simp [encQ, aAppend_c hF, s_isApp, isA, ix_app, isTx, Src.enum, enumD_len, ds_len, lc, lm, ex]
end
end K12
set_option maxHeartbeats 0
namespace K12
open VM Law
open L2 (atI ixN)
mutual
/-- rests stand at the ends of rows alone -/
def okT : Tm → Bool
  | .app _ as => okA as
  | .num i => i == 0 || i == -3 || i == 1000
  | .var _ => true
  | .rst _ => true
def okA : List Tm → Bool
  | [] => true
  | t :: ts => okT t && (ts.isEmpty || !isR t) && okA ts
end
mutual
/-- what stands where, from the left -/
def stD : Tm → List D
  | .num _ => []
  | .var x => [.tup [.str "term", .str (vS x)]]
  | .rst x => [.tup [.str "rest", .str (rV x)]]
  | .app h as => (if hV h then [D.tup [.str "head", .str (hS h)]] else []) ++ stDs as
def stDs : List Tm → List D
  | [] => []
  | t :: ts => stD t ++ stDs ts
end
def flg : List Tm → List (Tm × Bool)
  | [] => []
  | t :: ts => (t, ts.isEmpty) :: flg ts
theorem stDs_flat : ∀ ts : List Tm, stDs ts = (flg ts).flatMap fun q => stD q.1
  | [] => by simp [stDs, flg]
  | t :: ts => by
    simp only [stDs, flg, List.flatMap_cons]
    rw [stDs_flat ts]
theorem flg_len : ∀ ts : List Tm, (flg ts).length = ts.length
  | [] => rfl
  | t :: ts => by simp only [flg, List.length_cons, flg_len ts]
theorem flg_sz : ∀ ts : List Tm, ((flg ts).map fun q => sz q.1).sum = szs ts
  | [] => by simp [szs, flg]
  | t :: ts => by
    simp only [szs, flg, List.map_cons, List.sum_cons]
    rw [flg_sz ts]
theorem flg_get : ∀ (ts : List Tm) (j : Nat), (flg ts)[j]? = (ts[j]?).map fun t => (t, decide (j + 1 = ts.length))
  | [], j => by simp [flg]
  | t :: ts, 0 => by
    simp only [flg, List.getElem?_cons_zero, Option.map_some, List.length_cons]
    cases ts <;> simp
  | t :: ts, j + 1 => by
    simp only [flg, List.getElem?_cons_succ, List.length_cons]
    rw [flg_get ts j]
    simp
theorem flg_mem : ∀ {ts : List Tm} {q : Tm × Bool}, q ∈ flg ts → okA ts = true → q.1 ∈ ts ∧ okT q.1 = true ∧ (isR q.1 = true → q.2 = true)
  | [], q, h, _ => by simp [flg] at h
  | t :: ts, q, h, ho => by
    simp only [okA, Bool.and_eq_true, Bool.or_eq_true] at ho
    simp only [flg] at h
    rcases List.mem_cons.mp h with rfl | h
    · refine ⟨List.mem_cons_self, ho.1.1, fun hr => ?_⟩
      rcases ho.1.2 with h | h
      · exact h
      · rw [hr] at h; cases h
    · obtain ⟨h1, h2⟩ := flg_mem h ho.2
      exact ⟨List.mem_cons_of_mem _ h1, h2⟩
def encF (q : Tm × Bool) : D := .tup [q.1.d, .bl q.2]
def kidF (q : Tm × Bool) : List (Tm × Bool) := match q.1 with
  | .app _ as => flg as
  | _ => []
def outF (q : Tm × Bool) : List D := match q.1 with
  | .num _ => []
  | .var x => [.tup [.str "term", (Tm.var x).d]]
  | .rst x => [.tup [.str "rest", .str (rV x)]]
  | .app h _ => if hV h then [.tup [.str "head", .str (hS h)]] else []
theorem rest_cut : ∀ x : Fin 3, opSl (.str (rS x)) (some 1) none = some (.dat (.str (rV x)))
  | 0 => by kernel_rfl
  | 1 => by kernel_rfl
  | 2 => by kernel_rfl
section
variable {n : Nat} {μ : Sto}
theorem ds_get (as : List Tm) (j : Nat) (t : Tm) (h : as[j]? = some t) : opIx (.tup (ds as)) (.int (j : Nat)) = some (.dat t.d) := by
  have hj := (List.getElem?_eq_some_iff.mp h).1
  show (atI (ds as) (j : Nat)).map EV.dat = _
  unfold L2.atI L2.ixN
  rw [if_pos (by omega), if_pos (by rw [ds_len]; omega)]
  simp only [Int.toNat_natCast, Option.bind_some, ds_map, List.getElem?_map, h, Option.map_some]
theorem rest_cut' (x : Fin 3) : opSl (Tm.rst x).d (some 1) none = some (.dat (.str (rV x))) := by simp only [Tm.d]; exact rest_cut x
theorem opEq_int (i j : Int) : opEq (.int i) (.int j) = some (i == j) := by simp [opEq, txEq, fits, eqv]
/-- the places, from the last one on -/
def backS (m : Nat) : List D := (List.range m).map fun i => .int (((m : Int) - 1) + (i : Nat) * (-1))
theorem backS_len (m : Nat) : (backS m).length = m := by unfold backS; rw [List.length_map, List.length_range]
/-- the children, from the last one on -/
theorem lc_back {step : D → Sto → Res (Option D)} {μ : Sto} {as : List Tm} (h : ∀ (j : Nat) (t : Tm), as[j]? = some t → step (.int (j : Nat)) μ = .ok (some (encF (t, decide (j + 1 = as.length)))) μ) (hl : as.length ≤ 900) :
    lcLoop (.vals (backS as.length)) step (as.length + 1) 0 μ = .ok (((flg as).map encF).reverse) μ := by
  unfold backS
  have key : ∀ i, i < as.length → step (.int (((as.length : Int) - 1) + (i : Nat) * (-1))) μ = .ok (((flg as).map encF).reverse[i]?) μ := fun i hi => by
    have e1 : ((as.length : Int) - 1) + (i : Nat) * (-1) = ((as.length - 1 - i : Nat) : Int) := by omega
    have hj : as.length - 1 - i < as.length := by omega
    rw [e1, h _ _ (List.getElem?_eq_getElem hj)]
    rw [List.getElem?_reverse (by rw [List.length_map, flg_len]; exact hi), List.length_map, flg_len, List.getElem?_map, flg_get, List.getElem?_eq_getElem hj]
    rfl
  have e := lc_pure (s := (List.range as.length).map fun i => D.int (((as.length : Int) - 1) + (i : Nat) * (-1))) (step := step) (g := fun d => match step d μ with | .ok o _ => o | _ => none) (μ := μ) (fun d hd => ?_) (as.length + 1) 0 (Nat.zero_le _)
    (by rw [List.length_map, List.length_range]; omega) (by rw [List.length_map, List.length_range]; exact lim1 (by omega))
  · rw [e, List.drop_zero, List.filterMap_map]
    congr 1
    apply List.ext_getElem?
    intro i
    have fm : ∀ (l : List Nat), (∀ i ∈ l, i < as.length) → l.filterMap ((fun d => match step d μ with | .ok o _ => o | _ => none) ∘ fun i => D.int (((as.length : Int) - 1) + (i : Nat) * (-1))) = l.filterMap fun i => ((flg as).map encF).reverse[i]? := by
      intro l
      induction l with
      | nil => intro _; rfl
      | cons a l ih =>
        intro hl
        rw [List.filterMap_cons, List.filterMap_cons, ih fun i hi => hl i (List.mem_cons_of_mem _ hi)]
        simp only [Function.comp]
        rw [key a (hl a List.mem_cons_self)]
    rw [fm _ fun i hi => List.mem_range.mp hi]
    have all : ∀ (ys : List D), (List.range ys.length).filterMap (fun i => ys[i]?) = ys := fun ys => by
      rw [HT.fm_map (g := fun i => ys[i]?.getD .non) fun i hi => ?_]
      · apply List.ext_getElem
        · simp
        · intro i h1 h2
          simp [List.getElem?_eq_getElem h2]
      · have := List.mem_range.mp hi
        rw [List.getElem?_eq_getElem this]; rfl
    have := all ((flg as).map encF).reverse
    rw [List.length_reverse, List.length_map, flg_len] at this
    rw [this]
  · obtain ⟨i, hi, rfl⟩ := List.mem_map.mp hd
    rw [key i (List.mem_range.mp hi)]
theorem s_standings (t : Tm) (ho : okT t = true) (hr : isR t = false) (hd : dep t ≤ 25) (hs : sz t ≤ 450) : VM.run T (n + 3) 7 [.dat t.d] μ = .ok (.new (.lst (stD t))) μ := by
  rw [run_at (nl := 7) (b := P_standings) (by rfl)]
  unfold P_standings
  have loop := stack_loop (μ := μ) encF outF kidF (fun q => stD q.1) (fun q => 2 * sz q.1) (fun q => okT q.1 = true ∧ (isR q.1 = true → q.2 = true) ∧ dep q.1 ≤ 25) (fun ρ => ∃ o0 o3 o4 o5 o6, ρ = [o0, some (.cel μ.length), some (.cel (μ.length + 1)), o3, o4, o5, o6]) 900
    (c := (bCmp (opCmp .NotEq) (eV 2) (eLst (evs []))) (VM.run T (n + 2)))
    (b := (sSeq (sAsg (eCM aPop (eV 2) (evs [])) (gTp [gNm 3, gNm 4])) (sIf (bTru (eCall 3 (evs [eV 3]))) (sDrop (eCM aAppend (eV 1) (evs [eTup (evs [eC (.str "term"), eV 3])]))) (sIf (bAnd (bTru (eV 4)) (bTru (eCall 5 (evs [eV 3])))) (sDrop (eCM aAppend (eV 1) (evs [eTup (evs [eC (.str "rest"), eSl (eV 3) (oSome (eC (.int 1))) (oNone)])]))) (sIf (bAnd (bTru (eCall 6 (evs [eV 3]))) (bAnd (bTru (eCall 4 (evs [eIx (eV 3) (eC (.int 0))]))) (bTru (eIsi .tuple (eIx (eV 3) (eC (.int 1))))))) (sSeq (sIf (bTru (eCall 3 (evs [eIx (eV 3) (eC (.int 0))]))) (sDrop (eCM aAppend (eV 1) (evs [eTup (evs [eC (.str "head"), eIx (eV 3) (eC (.int 0))])]))) (sPass)) (sSeq (sSet 5 (eBin .Sub (eCb bLen (evs [eIx (eV 3) (eC (.int 1))])) (eC (.int 1)))) (sDrop (eCM aExtend (eV 2) (evs [eLc (iRange (evs [eV 5, eNeg (eC (.int 1)), eNeg (eC (.int 1))])) (.nm 6) (bYes) (eTup (evs [eIx (eIx (eV 3) (eC (.int 1))) (eV 6), eCmp (opCmp .Eq) (eV 6) (eV 5)])) [6]]))))) (sIf (bNot (bTru (eCall 0 (evs [eV 3])))) (sRet (eC .non)) (sPass)))))) (VM.run T (n + 2)))
    ?_ ?_ ?_ ?_ ?_ ?_ (2 * sz t) LIM [some (.dat t.d), some (.cel μ.length), some (.cel (μ.length + 1)), none, none, none, none] [] [(t, false)] ⟨_, _, _, _, _, rfl⟩ (by simp [ho, hr, hd]) (by simp) (lim2 (by omega)) (by simp; omega)
  · obtain ⟨ρ', ⟨o0, o3, o4, o5, o6, rfl⟩, e⟩ := loop
    simp [startE]
    simp [stk, encF] at e
    rw [e]
    simp [callEnd, EV.out]
  · rintro ⟨t, l⟩ _
    cases t <;> simp [stD, kidF, outF, stDs_flat, Tm.d]
  · rintro ⟨t, l⟩ _
    cases t <;> simp [sz, kidF]
    rename_i h as _
    have := flg_sz as
    have e : ((flg as).map fun q => 2 * sz q.1).sum = 2 * szs as := by
      rw [← flg_sz as]
      clear this
      generalize flg as = l
      induction l with
      | nil => rfl
      | cons a l ih => simp only [List.map_cons, List.sum_cons, ih]; omega
    omega
  · rintro ⟨t, l⟩ _
    have e : ∀ as : List Tm, ((flg as).map fun q => 2 * sz q.1).sum = 2 * szs as := fun as => by
      rw [← flg_sz as]
      generalize flg as = l
      induction l with
      | nil => rfl
      | cons a l ih => simp only [List.map_cons, List.sum_cons, ih]; omega
    cases t <;> simp [sz, kidF, outF, e]
    rename_i h as _
    split <;> simp <;> omega
  · rintro ⟨t, l⟩ h ⟨t', l'⟩ hy
    cases t <;> simp [kidF] at hy
    rename_i hh as
    obtain ⟨h1, h2, h3⟩ := h
    have h1 : okT (.app hh as) = true := h1
    have h3 : dep (.app hh as) ≤ 25 := h3
    simp only [okT] at h1
    simp only [dep] at h3
    obtain ⟨m1, m2, m3⟩ := flg_mem hy h1
    have := deps_mem m1
    exact ⟨m2, m3, by show dep t' ≤ 25; have h4 : dep t' ≤ deps as := this; omega⟩
  · rintro ρ Fd L ⟨o0, o3, o4, o5, o6, rfl⟩ hg
    have hf : ∀ d ∈ (L.map encF).reverse, fits 63 d = true := fun d hd => by
      obtain ⟨q, hq, rfl⟩ := List.mem_map.mp (List.mem_reverse.mp hd)
      simp only [encF, fits, fitsAll, Bool.and_true]
      exact d_fits q.1 62 (by have := (hg q hq).2.2; omega)
    simp [stk, EV.see, ne_nil hf]
  · rintro ρ Fd ⟨t, fl⟩ L ⟨o0, o3, o4, o5, o6, rfl⟩ hg hgl hB
    have hF : Fd.length < LIM := lim2 (by have := sz_pos t; omega)
    cases t with
    | num i => exact ⟨[o0, some (.cel μ.length), some (.cel (μ.length + 1)), some (.dat (Tm.num i).d), some (.dat (.bl fl)), o5, o6], ⟨_, _, _, _, _, rfl⟩, by cases fl <;> simp [stk, encF, s_isVar, isV, s_isRest, isR, s_isApp, isA, s_isInt, isN, kidF, outF]⟩
    | var x => exact ⟨[o0, some (.cel μ.length), some (.cel (μ.length + 1)), some (.dat (Tm.var x).d), some (.dat (.bl fl)), o5, o6], ⟨_, _, _, _, _, rfl⟩, by simp [stk, encF, s_isVar, isV, aAppend_c hF, kidF, outF]⟩
    | rst x =>
      have : fl = true := hg.2.1 rfl
      subst this
      exact ⟨[o0, some (.cel μ.length), some (.cel (μ.length + 1)), some (.dat (Tm.rst x).d), some (.dat (.bl true)), o5, o6], ⟨_, _, _, _, _, rfl⟩, by simp [stk, encF, s_isVar, isV, s_isRest, isR, aAppend_c hF, kidF, outF, oSome, oNone, rest_cut']⟩
    | app h as =>
      have hB' : Fd.length + 2 * (1 + szs as) + (L.map fun q => 2 * sz q.1).sum ≤ 900 := by simpa only [sz] using hB
      have hl := len_szs as
      have hLl := sum_len (f := fun q : Tm × Bool => 2 * sz q.1) (fun q => by have := sz_pos q.1; omega) L
      have ex := aExtend_c (l := (L.map encF).reverse) (e := ((flg as).map encF).reverse) (by
        rw [List.length_reverse, List.length_reverse, List.length_map, List.length_map, flg_len]
        exact Nat.le_trans (Nat.add_le_add (by omega : L.length ≤ 900) (by omega : as.length ≤ 900)) (by decide))
      have lm : (flg as).length ≤ LIM := by rw [flg_len]; exact lim1 (by omega)
      have rg : rangeOf [.dat (.int ((as.length : Int) - 1)), .dat (.int (-1)), .dat (.int (-1))] = some (.vals (backS as.length)) := by
        have hc : (-1 : Int) = -1 ∧ -1000000 ≤ (-1 : Int) ∧ (-1 : Int) ≤ 1000000 ∧ -1000000 ≤ (as.length : Int) - 1 ∧ (as.length : Int) - 1 ≤ 1000000 := ⟨rfl, by decide, by decide, by omega, by omega⟩
        have hn : ((as.length : Int) - 1 - -1).toNat = as.length := by omega
        unfold rangeOf backS
        exact (if_pos hc).trans (by rw [hn])
      have lc : ∀ Fd', lcLoop (.vals (backS as.length)) (lcStep (VM.run T (n + 2)) (.nm 6) bYes (eTup (evs [eIx (eIx (eV 3) (eC (.int 1))) (eV 6), eCmp (opCmp .Eq) (eV 6) (eV 5)])) (wipeE [o0, some (.cel μ.length), some (.cel (μ.length + 1)), some (.dat (Tm.app h as).d), some (.dat (.bl fl)), some (.dat (.int ((as.length : Int) - 1))), o6] [6])) (as.length + 1) 0
          (μ ++ [⟨true, .lst Fd'⟩, ⟨true, .lst (L.map encF).reverse⟩]) = .ok (((flg as).map encF).reverse) (μ ++ [⟨true, .lst Fd'⟩, ⟨true, .lst (L.map encF).reverse⟩]) := fun Fd' => lc_back (fun j t hj => by
        have e : ((j : Int) == (as.length : Int) - 1) = decide (j + 1 = as.length) := by
          rw [Bool.eq_iff_iff, beq_iff_eq, decide_eq_true_iff]
          omega
        simp [wipeE, asg, ix_app, ds_get as j t hj, opCmp, opEq_int, e, encF]) (by omega)
      refine ⟨[o0, some (.cel μ.length), some (.cel (μ.length + 1)), some (.dat (Tm.app h as).d), some (.dat (.bl fl)), some (.dat (.int ((as.length : Int) - 1))), o6], ⟨_, _, _, _, _, rfl⟩, ?_⟩
      simp only [stk, kidF, List.map_append, List.reverse_append, List.map_cons, List.reverse_cons]
      have subI : ∀ a : Int, opBin .Sub (.int a) (.int 1) = some (.dat (.int (a - 1))) := fun a => rfl
      cases fl <;> cases hv : hV h <;> simp [encF, s_isVar, isV, s_isRest, isR, s_isApp, isA, ix_app, ix_app0, s_isHead, s_headVar, hv, isi, aAppend_c hF, outF, bLen, ds_len, eNeg, rg, backS_len, lc, lm, ex, subI]
end
end K12
set_option maxHeartbeats 0
namespace K12
open VM Law
open L2 (atI ixN)
/-! one variable, one sort -/
/-- the sort of a name -/
def srt (v : PySem.Str) : PySem.Str := if [vS 0, vS 1, vS 2].any (fun x => x.cps.toList == v.cps.toList) then "term" else if [rV 0, rV 1, rV 2].any (fun x => x.cps.toList == v.cps.toList) then "rest" else "head"
def It (d : D) : Prop := ∃ v : PySem.Str, d = .tup [.str (srt v), .str v] ∧ fits 0 (.str v) = true
theorem srt_v : ∀ x : Fin 3, srt (vS x) = "term"
  | 0 => by decide +kernel
  | 1 => by decide +kernel
  | 2 => by decide +kernel
theorem srt_r : ∀ x : Fin 3, srt (rV x) = "rest"
  | 0 => by decide +kernel
  | 1 => by decide +kernel
  | 2 => by decide +kernel
theorem srt_h : ∀ x : Fin 6, hV x = true → srt (hS x) = "head"
  | 0, h => by cases h
  | 1, h => by cases h
  | 2, h => by cases h
  | 3, h => by cases h
  | 4, _ => by decide +kernel
  | 5, _ => by decide +kernel
theorem rV_fits (x : Fin 3) (n : Nat) : fits n (.str (rV x)) = true := by
  have : ((rV x).cps.toList.all fun c => decide (c < 0x110000)) = true := by revert x; decide +kernel
  cases n <;> simpa only [fits] using this
mutual
theorem st_it : ∀ (t : Tm) (d : D), d ∈ stD t → It d
  | .num _, d, h => by simp [stD] at h
  | .var x, d, h => by
    simp only [stD, List.mem_singleton] at h
    exact ⟨vS x, by rw [h, srt_v], vS_fits x 0⟩
  | .rst x, d, h => by
    simp only [stD, List.mem_singleton] at h
    exact ⟨rV x, by rw [h, srt_r], rV_fits x 0⟩
  | .app hh as, d, h => by
    simp only [stD] at h
    rcases List.mem_append.mp h with h | h
    · by_cases c : hV hh = true
      · rw [if_pos c, List.mem_singleton] at h
        exact ⟨hS hh, by rw [h, srt_h hh c], hS_fits hh 0⟩
      · rw [if_neg c] at h; simp at h
    · exact sts_it as d h
theorem sts_it : ∀ (ts : List Tm) (d : D), d ∈ stDs ts → It d
  | [], d, h => by simp [stDs] at h
  | t :: ts, d, h => by
    simp only [stDs] at h
    rcases List.mem_append.mp h with h | h
    · exact st_it t d h
    · exact sts_it ts d h
end
mutual
theorem st_len : ∀ t : Tm, (stD t).length ≤ sz t
  | .num _ => by simp [stD, sz]
  | .var x => by simp [stD, sz]
  | .rst x => by simp [stD, sz]
  | .app h as => by
    have := sts_len as
    simp only [stD, sz, List.length_append]
    split
    · simp only [List.length_singleton]; omega
    · simp only [List.length_nil]; omega
theorem sts_len : ∀ ts : List Tm, (stDs ts).length ≤ szs ts
  | [] => by simp [stDs]
  | t :: ts => by
    have h1 := st_len t
    have h2 := sts_len ts
    simp only [stDs, szs, List.length_append]
    omega
end
/-! a dict whose values are told by the keys -/
section
variable {g : L2.Key → D}
theorem dhas_cons (k : L2.Key) (ks : List L2.Key) (j : L2.Key) : dhas (k :: ks) j = (keyEq k j || dhas ks j) := rfl
theorem dget_g : ∀ (ks : List L2.Key) (j : L2.Key), dget ks (ks.map g) j = if dhas ks j = true then some (g j) else none
  | [], j => by simp [dget, dhas]
  | k :: ks, j => by
    have ih := dget_g ks j
    simp only [List.map_cons, dget]
    by_cases c : keyEq k j = true
    · have h : dhas (k :: ks) j = true := by rw [dhas_cons, c, Bool.true_or]
      rw [if_pos c, if_pos h, keyEq_iff.mp c]
    · have c' : keyEq k j = false := by simpa using c
      have h : dhas (k :: ks) j = dhas ks j := by rw [dhas_cons, c', Bool.false_or]
      rw [if_neg c, ih, h]
theorem dput_g : ∀ (ks : List L2.Key) (j : L2.Key), dhas ks j = false → dput ks (ks.map g) j (g j) = (ks ++ [j], (ks ++ [j]).map g)
  | [], j, _ => by simp [dput]
  | k :: ks, j, h => by
    simp only [dhas, List.any_cons, Bool.or_eq_false_iff] at h
    have ih := dput_g ks j (by simpa only [dhas] using h.2)
    simp only [List.map_cons, dput]
    rw [if_neg (by rw [h.1]; decide), ih]
    simp
theorem dhas_app (ks : List L2.Key) (a j : L2.Key) : dhas (ks ++ [a]) j = (dhas ks j || keyEq a j) := by simp [dhas, List.any_append]
theorem keyEq_symm (a b : L2.Key) : keyEq a b = keyEq b a := by
  rw [Bool.eq_iff_iff, keyEq_iff, keyEq_iff]
  exact ⟨Eq.symm, Eq.symm⟩
theorem ndK_app : ∀ (ks : List L2.Key) (j : L2.Key), ndK ks = true → dhas ks j = false → ndK (ks ++ [j]) = true
  | [], j, _, _ => by simp [ndK, dhas]
  | k :: ks, j, h, hj => by
    simp only [ndK, Bool.and_eq_true, Bool.not_eq_true'] at h
    simp only [dhas, List.any_cons, Bool.or_eq_false_iff] at hj
    have ih := ndK_app ks j h.2 (by simpa only [dhas] using hj.2)
    simp only [List.cons_append, ndK, Bool.and_eq_true, Bool.not_eq_true', ih, and_true]
    rw [dhas_app, h.1, Bool.false_or, keyEq_symm, hj.1]
end
def gS (k : L2.Key) : D := match k with
  | .inr v => .str (srt v)
  | _ => .non
section
variable {n : Nat} {μ : Sto}
/-- the loop of have_one_sort, over a list that stands in a cell below -/
theorem one_loop {F : Fns} {ρ : Env} {k : Nat} {Fd : List D} (hk : μ[k]? = some ⟨true, .lst Fd⟩) (hit : ∀ d ∈ Fd, It d) (hl : Fd.length ≤ 900) (o0 : Option SV) : ∀ (m i : Nat) (ks : List L2.Key), i ≤ Fd.length → Fd.length < i + m → ks.length ≤ i → ndK ks = true →
    ∃ ks' : List L2.Key, lcLoop (.cell k) (lcStep F (.tup [.nm 2, .nm 3]) bYes (eCmp (opCmp .Eq) (eSetd (eV 1) (eV 3) (eV 2)) (eV 2)) [o0, some (.cel μ.length), none, none]) m i (μ ++ [⟨true, .dic ks (ks.map gS)⟩]) = .ok (List.replicate (Fd.length - i) (.bl true)) (μ ++ [⟨true, .dic ks' (ks'.map gS)⟩])
  | 0, i, ks, h1, h2, _, _ => by omega
  | m + 1, i, ks, h1, h2, h3, h4 => by
    have hkl : k < μ.length := (List.getElem?_eq_some_iff.mp hk).1
    have hat : (Src.cell k).at (μ ++ [⟨true, .dic ks (ks.map gS)⟩]) = some Fd := by
      simp only [Src.at]
      rw [List.getElem?_append_left hkl, hk]
    unfold lcLoop
    rw [hat]
    simp only
    cases e : Fd[i]? with
    | none =>
      have : Fd.length ≤ i := List.getElem?_eq_none_iff.mp e
      refine ⟨ks, ?_⟩
      rw [show Fd.length - i = 0 by omega]; rfl
    | some d =>
      have hi : i < Fd.length := (List.getElem?_eq_some_iff.mp e).1
      obtain ⟨v, rfl, hv⟩ := hit d (List.mem_of_getElem? e)
      simp only
      rw [if_pos (show i < LIM from lim2 (by omega))]
      have hks : ks.length < LIM := lim2 (by omega)
      have eqs : ∀ s : PySem.Str, opEq (.str s) (.str s) = some true := fun s => by simp [opEq, txEq]
      by_cases c : dhas ks (.inr v) = true
      · obtain ⟨ks', ih⟩ := one_loop (F := F) (ρ := ρ) hk hit hl o0 m (i + 1) ks (by omega) (by omega) (by omega) h4
        refine ⟨ks', ?_⟩
        have st : lcStep F (.tup [.nm 2, .nm 3]) bYes (eCmp (opCmp .Eq) (eSetd (eV 1) (eV 3) (eV 2)) (eV 2)) [o0, some (.cel μ.length), none, none] (.tup [.str (srt v), .str v]) (μ ++ [⟨true, .dic ks (ks.map gS)⟩]) = .ok (some (.bl true)) (μ ++ [⟨true, .dic ks (ks.map gS)⟩]) := by
          simp [asg, asgs, eSetd, EV.see, D.key, h4, hks, dget_g, c, gS, opCmp, eqs]
        rw [st, Res.bind_ok, ih, Res.bind_ok]
        rw [show Fd.length - i = (Fd.length - (i + 1)) + 1 by omega, List.replicate_succ]
      · have c' : dhas ks (.inr v) = false := by simpa using c
        obtain ⟨ks', ih⟩ := one_loop (F := F) (ρ := ρ) hk hit hl o0 m (i + 1) (ks ++ [.inr v]) (by omega) (by omega) (by rw [List.length_append]; simp; omega) (ndK_app ks _ h4 c')
        refine ⟨ks', ?_⟩
        have pg := dput_g (g := gS) ks (Sum.inr v : L2.Key) c'
        have pg1 : (dput ks (ks.map gS) (Sum.inr v : L2.Key) (.str (srt v))).1 = ks ++ [(Sum.inr v : L2.Key)] := by rw [show D.str (srt v) = gS (Sum.inr v : L2.Key) from rfl, pg]
        have pg2 : (dput ks (ks.map gS) (Sum.inr v : L2.Key) (.str (srt v))).2 = (ks ++ [(Sum.inr v : L2.Key)]).map gS := by rw [show D.str (srt v) = gS (Sum.inr v : L2.Key) from rfl, pg]
        have st : lcStep F (.tup [.nm 2, .nm 3]) bYes (eCmp (opCmp .Eq) (eSetd (eV 1) (eV 3) (eV 2)) (eV 2)) [o0, some (.cel μ.length), none, none] (.tup [.str (srt v), .str v]) (μ ++ [⟨true, .dic ks (ks.map gS)⟩]) = .ok (some (.bl true)) (μ ++ [⟨true, .dic (ks ++ [Sum.inr v]) ((ks ++ [(Sum.inr v : L2.Key)]).map gS)⟩]) := by
          simp only [x_step, asg, asgs, List.length_cons, List.length_nil]
          simp [eSetd, EV.see, D.key, h4, hks, dget_g, c', pg1, pg2, opCmp, eqs]
        rw [st, Res.bind_ok, ih, Res.bind_ok]
        rw [show Fd.length - i = (Fd.length - (i + 1)) + 1 by omega, List.replicate_succ]
theorem bls_rep (m : Nat) : bls (List.replicate m (.bl true)) = some (List.replicate m true) := by
  induction m with
  | zero => rfl
  | succ m ih => simp only [List.replicate_succ, bls, ih]; rfl
theorem s_oneSort {k : Nat} {Fd : List D} (hk : μ[k]? = some ⟨true, .lst Fd⟩) (hit : ∀ d ∈ Fd, It d) (hl : Fd.length ≤ 900) : VM.run T (n + 1) 8 [.cel k] μ = .ok (.dat (.bl true)) μ := by
  rw [run_at (nl := 4) (b := P_have_one_sort) (by rfl)]
  unfold P_have_one_sort
  have hkl : k < μ.length := (List.getElem?_eq_some_iff.mp hk).1
  obtain ⟨ks', e⟩ := one_loop (F := VM.run T n) (ρ := []) hk hit hl (some (.cel k)) (Fd.length + 1) 0 [] (Nat.zero_le _) (by omega) (Nat.zero_le _) rfl
  have sl : (Src.cell k).len (μ ++ [⟨true, .dic [] []⟩]) = Fd.length := by
    simp only [Src.len, Src.at]
    rw [List.getElem?_append_left hkl, hk]
  have so : srcOf (.cel k) (μ ++ [⟨true, .dic [] []⟩]) = some (.cell k) := by
    simp only [srcOf]
    rw [List.getElem?_append_left hkl, hk]
  have hr : Fd.length ≤ LIM := lim1 (by omega)
  simp only [List.map_nil, Nat.sub_zero] at e
  simp [startE, so, sl, wipeE, e, hr, bAll, bls_rep, callEnd, EV.out]
end
end K12
set_option maxHeartbeats 0
namespace K12
open VM Law
open L2 (atI ixN)
/-- a drawn term -/
structure Good (t : Tm) : Prop where
  ok : okT t = true
  nr : isR t = false
  dp : dep t ≤ 25
  sz : K12.sz t ≤ 450
section
variable {n : Nat} {μ : Sto} {t : Tm}
theorem isnot_lst {l : List D} : opCmp .IsNot (.lst l) .non = some true := rfl
theorem s_isTerm (h : Good t) : VM.run T (n + 4) 16 [.dat t.d] μ = .ok (.dat (.bl true)) μ := by
  rw [run_at (nl := 2) (b := P_is_term) (by rfl)]
  unfold P_is_term
  have e := s_oneSort (n := n + 2) (μ := μ ++ [⟨true, .lst (stD t)⟩]) (k := μ.length) (Fd := stD t) (by simp) (fun d hd => st_it t d hd) (Nat.le_trans (st_len t) (Nat.le_trans h.sz (by decide)))
  simp [startE, s_standings t h.ok h.nr h.dp h.sz, EV.see, isnot_lst, e, callEnd, EV.out]
theorem s_want (h : Good t) : VM.run T (n + 5) 17 [.dat t.d] μ = .ok (.dat t.d) μ := by
  rw [run_at (nl := 1) (b := P_want_term) (by rfl)]
  unfold P_want_term
  simp [startE, s_isTerm h, callEnd, EV.out]
theorem s_nodes_of (h : Good t) : VM.run T (n + 3) 11 [.dat t.d] μ = .ok (.dat (.int (pcs 1 t).length)) μ := by
  rw [run_at (nl := 1) (b := P_nodes_of) (by rfl)]
  unfold P_nodes_of
  simp [startE, s_pieces t h.dp (Nat.le_trans h.sz (by decide)), bLen, callEnd, EV.out]
theorem s_nodes (h : Good t) : VM.run T (n + 6) 19 [.dat t.d] μ = .ok (.dat (.int (pcs 1 t).length)) μ := by
  rw [run_at (nl := 1) (b := P_nodes) (by rfl)]
  unfold P_nodes
  simp [startE, s_want h, s_nodes_of h, callEnd, EV.out]
theorem s_paths (h : Good t) : VM.run T (n + 6) 21 [.dat t.d] μ = .ok (.new (.lst ((sortL ((allQ [] t).map iP)).map ofTup))) μ := by
  rw [run_at (nl := 1) (b := P_paths) (by rfl)]
  unfold P_paths
  simp [startE, s_want h, s_paths_of t h.dp (Nat.le_trans h.sz (by decide)), callEnd, EV.out]
end
/-! levels -/
mutual
def lvs : Nat → Tm → List Int
  | l, .app _ as => (l : Int) :: lvss (l + 1) as
  | l, .num _ => [(l : Int)]
  | l, .var _ => [(l : Int)]
  | l, .rst _ => [(l : Int)]
def lvss : Nat → List Tm → List Int
  | _, [] => []
  | l, t :: ts => lvs l t ++ lvss l ts
end
def lvOf : D → D
  | .tup [_, x] => x
  | d => d
mutual
theorem lv_pcs : ∀ (l : Nat) (t : Tm), (pcs l t).map lvOf = (lvs l t).map .int
  | l, .app h as => by simp only [pcs, lvs, List.map_cons, lv_pcss (l + 1) as, lvOf]
  | l, .num i => by simp [pcs, lvs, lvOf]
  | l, .var x => by simp [pcs, lvs, lvOf]
  | l, .rst x => by simp [pcs, lvs, lvOf]
theorem lv_pcss : ∀ (l : Nat) (ts : List Tm), (pcss l ts).map lvOf = (lvss l ts).map .int
  | l, [] => by simp [pcss, lvss]
  | l, t :: ts => by simp only [pcss, lvss, List.map_append, lv_pcs l t, lv_pcss l ts]
theorem pcs_form : ∀ (l : Nat) (t : Tm) (d : D), d ∈ pcs l t → ∃ a x, d = .tup [a, .int x]
  | l, .app h as, d, hd => by
    simp only [pcs] at hd
    rcases List.mem_cons.mp hd with rfl | hd
    · exact ⟨_, _, rfl⟩
    · exact pcss_form (l + 1) as d hd
  | l, .num i, d, hd => by simp [pcs] at hd; exact ⟨_, _, hd⟩
  | l, .var x, d, hd => by simp [pcs] at hd; exact ⟨_, _, hd⟩
  | l, .rst x, d, hd => by simp [pcs] at hd; exact ⟨_, _, hd⟩
theorem pcss_form : ∀ (l : Nat) (ts : List Tm) (d : D), d ∈ pcss l ts → ∃ a x, d = .tup [a, .int x]
  | l, [], d, hd => by simp [pcss] at hd
  | l, t :: ts, d, hd => by
    simp only [pcss] at hd
    rcases List.mem_append.mp hd with hd | hd
    · exact pcs_form l t d hd
    · exact pcss_form l ts d hd
theorem pcs_len : ∀ (l : Nat) (t : Tm), (pcs l t).length = sz t
  | l, .app h as => by simp only [pcs, sz, List.length_cons, pcss_len (l + 1) as]; omega
  | l, .num i => by simp [pcs, sz]
  | l, .var x => by simp [pcs, sz]
  | l, .rst x => by simp [pcs, sz]
theorem pcss_len : ∀ (l : Nat) (ts : List Tm), (pcss l ts).length = szs ts
  | l, [] => by simp [pcss, szs]
  | l, t :: ts => by simp only [pcss, szs, List.length_append, pcs_len l t, pcss_len l ts]
end
theorem toInts_map : ∀ l : List Int, toInts (l.map .int) = some l
  | [] => rfl
  | i :: l => by simp only [List.map_cons, toInts, toInts_map l]; rfl
/-- the greatest level -/
theorem maxI_app : ∀ (a b : List Int) (m : Int), maxI m (a ++ b) = maxI (maxI m a) b
  | [], b, m => rfl
  | x :: a, b, m => by simp only [List.cons_append, maxI]; exact maxI_app a b _
mutual
theorem lv_max : ∀ (t : Tm) (l : Nat) (m : Int), maxI m (lvs l t) = max m ((l : Int) + (dep t : Int) - 1)
  | .app h as, l, m => by
    simp only [lvs, maxI, dep]
    rw [lvs_max as (l + 1)]
    have hm : (if m < (l : Int) then (l : Int) else m) = max m l := by split <;> omega
    rw [hm]
    cases as with
    | nil => simp [deps]
    | cons u us =>
      simp only [List.isEmpty_cons, Bool.false_eq_true, if_false]
      omega
  | .num i, l, m => by simp only [lvs, maxI, dep]; split <;> omega
  | .var x, l, m => by simp only [lvs, maxI, dep]; split <;> omega
  | .rst x, l, m => by simp only [lvs, maxI, dep]; split <;> omega
theorem lvs_max : ∀ (ts : List Tm) (l : Nat) (m : Int), maxI m (lvss l ts) = if ts.isEmpty then m else max m ((l : Int) + (deps ts : Int) - 1)
  | [], l, m => by simp [lvss, maxI]
  | t :: ts, l, m => by
    simp only [lvss, deps, maxI_app]
    rw [lv_max t l m, lvs_max ts l]
    cases ts with
    | nil => simp [deps]
    | cons u us => simp; omega
end
theorem dep_pos : ∀ t : Tm, 1 ≤ dep t
  | .app _ _ => by simp only [dep]; omega
  | .num _ => by simp [dep]
  | .var _ => by simp [dep]
  | .rst _ => by simp [dep]
theorem lvs_cons (t : Tm) : ∃ r, lvs 1 t = 1 :: r := by cases t <;> exact ⟨_, by simp only [lvs]; rfl⟩
section
variable {n : Nat} {μ : Sto} {t : Tm}
theorem s_depth_of (h : Good t) : VM.run T (n + 3) 12 [.dat t.d] μ = .ok (.dat (.int (dep t))) μ := by
  rw [run_at (nl := 3) (b := P_depth_of) (by rfl)]
  unfold P_depth_of
  have ll : (pcs 1 t).length ≤ LIM := by rw [pcs_len]; exact lim1 (Nat.le_trans h.sz (by decide))
  have lc := lc_map (s := pcs 1 t) (step := lcStep (VM.run T (n + 2)) (.tup [.nm 1, .nm 2]) bYes (eV 2) [some (.dat t.d), none, none]) (g := lvOf) (μ := μ) (fun d hd => by
    obtain ⟨a, x, rfl⟩ := pcs_form 1 t d hd
    simp [asg, asgs, lvOf]) ll
  rw [lv_pcs] at lc
  have ll2 : (lvs 1 t).length ≤ LIM := by
    have := congrArg List.length (lv_pcs 1 t)
    rw [List.length_map, List.length_map] at this
    omega
  have mx : bMax [.lst ((lvs 1 t).map .int)] = some (.dat (.int (dep t))) := by
    obtain ⟨r, hr⟩ := lvs_cons t
    have e := lv_max t 1 1
    rw [hr] at e ⊢
    simp only [bMax, toInts_map]
    simp only [maxI] at e
    have e' : maxI 1 r = max 1 ((1 : Int) + dep t - 1) := by simpa using e
    rw [e']
    have := dep_pos t
    congr 3
    omega
  simp [startE, s_pieces t h.dp (Nat.le_trans h.sz (by decide)), wipeE, lc, ll2, mx, callEnd, EV.out]
theorem s_depth (h : Good t) : VM.run T (n + 6) 20 [.dat t.d] μ = .ok (.dat (.int (dep t))) μ := by
  rw [run_at (nl := 1) (b := P_depth) (by rfl)]
  unfold P_depth
  simp [startE, s_want h, s_depth_of h, callEnd, EV.out]
end
end K12
set_option maxHeartbeats 0
namespace K12
open VM Law
open L2 (atI ixN)
/-! parts by paths -/
def sub : Tm → List Nat → Option Tm
  | t, [] => some t
  | .app _ as, i :: p => match as[i]? with
    | some u => sub u p
    | none => none
  | _, _ :: _ => none
def iDs (p : List Nat) : List D := p.map fun i => .int (i : Nat)
theorem pD_eq (p : List Nat) : pD p = .tup (iDs p) := rfl
theorem sub_cons {t : Tm} {i : Nat} {p : List Nat} {u : Tm} (h : sub t (i :: p) = some u) : ∃ hh as v, t = .app hh as ∧ as[i]? = some v ∧ sub v p = some u := by
  cases t with
  | app hh as =>
    simp only [sub] at h
    cases e : as[i]? with
    | none => rw [e] at h; cases h
    | some v => rw [e] at h; exact ⟨hh, as, v, rfl, e, h⟩
  | num _ => simp [sub] at h
  | var _ => simp [sub] at h
  | rst _ => simp [sub] at h
section
variable {n : Nat} {μ : Sto}
theorem ds_getI {hh : Fin 6} {as : List Tm} {i : Nat} {v : Tm} (h : as[i]? = some v) : opIx (.tup (ds as)) (.int (i : Nat)) = some (.dat v.d) := ds_get as i v h
theorem part_loop {F : Fns} (o0 o1 : Option SV) : ∀ (s p : List Nat) (t u : Tm) (o3 : Option SV) (m : Nat), sub t p = some u → p.length < m →
    ∃ o3', forL F (.vals (iDs (s ++ p))) (gNm 3) (sSet 2 (eIx (eIx (eV 2) (eC (.int 1))) (eV 3))) m s.length [o0, o1, some (.dat t.d), o3] μ = .ok (.nx [o0, o1, some (.dat u.d), o3']) μ
  | s, [], t, u, o3, 0, _, hm => by simp at hm
  | s, _ :: _, t, u, o3, 0, _, hm => by simp at hm
  | s, [], t, u, o3, m + 1, h, hm => by
    simp only [sub, Option.some.injEq] at h
    subst h
    refine ⟨o3, ?_⟩
    unfold forL
    have : (iDs s)[s.length]? = none := by simp [iDs]
    simp [this]
  | s, i :: p, t, u, o3, m + 1, h, hm => by
    obtain ⟨hh, as, v, rfl, hv, hs⟩ := sub_cons h
    have ih := part_loop (F := F) o0 o1 (s ++ [i]) p v u (some (.dat (.int (i : Nat)))) m hs (by simp at hm; omega)
    obtain ⟨o3', ih⟩ := ih
    refine ⟨o3', ?_⟩
    unfold forL
    have : (iDs (s ++ i :: p))[s.length]? = some (.int (i : Nat)) := by simp [iDs]
    have e2 : s ++ [i] ++ p = s ++ i :: p := by simp
    rw [e2, List.length_append, List.length_singleton] at ih
    simp [this, ix_app, ds_getI (hh := hh) hv, ih]
theorem s_part_of {t u : Tm} {p : List Nat} (h : sub t p = some u) : VM.run T (n + 1) 14 [.dat t.d, .dat (pD p)] μ = .ok (.dat u.d) μ := by
  rw [run_at (nl := 4) (b := P_part_of) (by rfl)]
  unfold P_part_of
  obtain ⟨o3', e⟩ := part_loop (F := VM.run T n) (μ := μ) (some (.dat t.d)) (some (.dat (pD p))) [] p t u none ((iDs p).length + 1) h (by simp [iDs])
  simp only [List.nil_append, List.length_nil] at e
  have sv : srcOf (.dat (pD p)) μ = some (.vals (iDs p)) := rfl
  simp [startE, sv, e, callEnd, EV.out]
theorem s_isCount (i : Nat) : VM.run T (n + 2) 1 [.dat (.int (i : Nat))] μ = .ok (.dat (.bl true)) μ := by
  rw [run_at (nl := 1) (b := P_is_count) (by rfl)]
  unfold P_is_count
  have h := s_isInt (n := n) (μ := μ) (.num (i : Nat))
  simp only [Tm.d] at h
  simp [startE, h, isN, EV.see, opCmp, opI, callEnd, EV.out]
theorem path_loop {N : Nat} (o0 o1 : Option SV) : ∀ (s p : List Nat) (t u : Tm) (o3 : Option SV) (m : Nat), sub t p = some u → p.length < m →
    ∃ o3', forL (VM.run T (N + 2)) (.vals (iDs (s ++ p))) (gNm 3) (sSeq (sIf (bOr (bNot (bTru (eCall 6 (evs [eV 2])))) (bOr (bNot (bTru (eCall 1 (evs [eV 3])))) (bCmp (opCmp .GtE) (eV 3) (eCb bLen (evs [eIx (eV 2) (eC (.int 1))]))))) (sRet (eC (.bl false))) (sPass)) (sSet 2 (eIx (eIx (eV 2) (eC (.int 1))) (eV 3)))) m s.length [o0, o1, some (.dat t.d), o3] μ = .ok (.nx [o0, o1, some (.dat u.d), o3']) μ
  | s, [], t, u, o3, 0, _, hm => by simp at hm
  | s, _ :: _, t, u, o3, 0, _, hm => by simp at hm
  | s, [], t, u, o3, m + 1, h, hm => by
    simp only [sub, Option.some.injEq] at h
    subst h
    refine ⟨o3, ?_⟩
    unfold forL
    have : (iDs s)[s.length]? = none := by simp [iDs]
    simp [this]
  | s, i :: p, t, u, o3, m + 1, h, hm => by
    obtain ⟨hh, as, v, rfl, hv, hs⟩ := sub_cons h
    have hi : i < as.length := (List.getElem?_eq_some_iff.mp hv).1
    have ih := path_loop (N := N) o0 o1 (s ++ [i]) p v u (some (.dat (.int (i : Nat)))) m hs (by simp at hm; omega)
    obtain ⟨o3', ih⟩ := ih
    refine ⟨o3', ?_⟩
    unfold forL
    have : (iDs (s ++ i :: p))[s.length]? = some (.int (i : Nat)) := by simp [iDs]
    have e2 : s ++ [i] ++ p = s ++ i :: p := by simp
    rw [e2, List.length_append, List.length_singleton] at ih
    have ge : opCmp .GtE (.int (i : Nat)) (.int as.length) = some false := by simp [opCmp, opI]; omega
    simp [this, ix_app, ds_getI (hh := hh) hv, s_isApp, isA, s_isCount, bLen, ds_len, ge, ih]
theorem s_isPath {t u : Tm} {p : List Nat} (h : sub t p = some u) (hr : isR u = false) : VM.run T (n + 3) 15 [.dat t.d, .dat (pD p)] μ = .ok (.dat (.bl true)) μ := by
  rw [run_at (nl := 4) (b := P_is_path_of) (by rfl)]
  unfold P_is_path_of
  obtain ⟨o3', e⟩ := path_loop (N := n) (μ := μ) (some (.dat t.d)) (some (.dat (pD p))) [] p t u none ((iDs p).length + 1) h (by simp [iDs])
  simp only [List.nil_append, List.length_nil] at e
  have sv : srcOf (.dat (pD p)) μ = some (.vals (iDs p)) := rfl
  have iv : isi .tuple (pD p) = true := rfl
  simp [startE, iv, sv, e, s_isRest, hr, callEnd, EV.out]
theorem s_partAt {t u : Tm} {p : List Nat} (g : Good t) (h : sub t p = some u) (hr : isR u = false) : VM.run T (n + 6) 22 [.dat t.d, .dat (pD p)] μ = .ok (.dat u.d) μ := by
  rw [run_at (nl := 2) (b := P_part_at) (by rfl)]
  unfold P_part_at
  simp [startE, s_want g, s_isPath h hr, s_part_of h, callEnd, EV.out]
end
/-! variables, each once -/
def kOf : D → L2.Key
  | .tup [_, .str v] => .inr v
  | _ => .inl 0
def hasV (acc : List D) (d : D) : Bool := dhas (acc.map kOf) (kOf d)
def uq : List D → List D → List D
  | acc, [] => acc
  | acc, d :: l => if hasV acc d then uq acc l else uq (acc ++ [d]) l
section
variable {n : Nat} {μ : Sto}
def gT' (_ : L2.Key) : D := .bl true
def dicV (acc : List D) : CV := .dic (acc.map kOf) ((acc.map kOf).map gT')
theorem vars_loop {F : Fns} (o0 : Option SV) {Fd : List D} (hit : ∀ d ∈ Fd, It d) (hl : Fd.length ≤ 450) : ∀ (m i : Nat) (acc : List D) (o3 o4 : Option SV), i ≤ Fd.length → Fd.length < i + m → acc.length ≤ i → ndK (acc.map kOf) = true → (∀ d ∈ acc, It d) →
    ∃ o3' o4' ks', forL F (.vals Fd) (gTp [gNm 3, gNm 4]) (sIf (bCmp (opCmp .NotIn) (eV 4) (eV 2)) (sSeq (sDrop (eCM aAppend (eV 1) (evs [eTup (evs [eV 3, eV 4])]))) (sAsg (eC (.bl true)) (gSb (eV 2) (eV 4)))) (sPass)) m i [o0, some (.cel μ.length), some (.cel (μ.length + 1)), o3, o4] (μ ++ [⟨true, .lst acc⟩, ⟨true, dicV acc⟩]) =
      .ok (.nx [o0, some (.cel μ.length), some (.cel (μ.length + 1)), o3', o4']) (μ ++ [⟨true, .lst (uq acc (Fd.drop i))⟩, ks'])
  | 0, i, acc, o3, o4, h1, h2, _, _, _ => by omega
  | m + 1, i, acc, o3, o4, h1, h2, h3, h4, h5 => by
    unfold forL
    simp only [src_vals]
    cases e : Fd[i]? with
    | none =>
      have : Fd.length ≤ i := List.getElem?_eq_none_iff.mp e
      refine ⟨o3, o4, ⟨true, dicV acc⟩, ?_⟩
      rw [List.drop_eq_nil_of_le this]; rfl
    | some d =>
      have hi : i < Fd.length := (List.getElem?_eq_some_iff.mp e).1
      have hdi := hit d (List.mem_of_getElem? e)
      have ed : Fd.drop i = d :: Fd.drop (i + 1) := by
        rw [List.drop_eq_getElem_cons hi]
        congr 1
        exact (List.getElem?_eq_some_iff.mp e).2
      obtain ⟨v, rfl, hv⟩ := hdi
      rw [ed]
      by_cases c : hasV acc (.tup [.str (srt v), .str v]) = true
      · obtain ⟨o3', o4', ks', ih⟩ := vars_loop (F := F) o0 hit hl m (i + 1) acc (some (.dat (.str (srt v)))) (some (.dat (.str v))) (by omega) (by omega) (by omega) h4 h5
        refine ⟨o3', o4', ks', ?_⟩
        have c2 : opCmp .NotIn (.str v) (dicV acc).toD = some false := by
          have c' : dhas (acc.map kOf) (Sum.inr v) = true := c
          show (some (dhas (acc.map kOf) (Sum.inr v))).map (!·) = _
          rw [c']; rfl
        simp only [uq, c, if_true]
        simp [EV.see, c2, ih]
      · have c' : hasV acc (.tup [.str (srt v), .str v]) = false := by simpa using c
        have c3 : dhas (acc.map kOf) (Sum.inr v : L2.Key) = false := c'
        have em : (acc ++ [D.tup [.str (srt v), .str v]]).map kOf = acc.map kOf ++ [(Sum.inr v : L2.Key)] := by simp [kOf]
        obtain ⟨o3', o4', ks', ih⟩ := vars_loop (F := F) o0 hit hl m (i + 1) (acc ++ [.tup [.str (srt v), .str v]]) (some (.dat (.str (srt v)))) (some (.dat (.str v))) (by omega) (by omega) (by simp; omega)
          (by rw [em]; exact ndK_app _ _ h4 c3) (fun d hd => (List.mem_append.mp hd).elim (h5 d) fun hd => ⟨v, List.mem_singleton.mp hd, hv⟩)
        refine ⟨o3', o4', ks', ?_⟩
        have c2 : opCmp .NotIn (.str v) (dicV acc).toD = some true := by
          show (some (dhas (acc.map kOf) (Sum.inr v))).map (!·) = _
          rw [c3]; rfl
        have hF : acc.length < LIM := lim2 (by omega)
        have pg := dput_g (g := gT') (acc.map kOf) (Sum.inr v : L2.Key) c3
        have pt : putAt (dicV acc) (.str v) (.bl true) = some (dicV (acc ++ [.tup [.str (srt v), .str v]])) := by
          unfold dicV
          rw [em]
          have hk : (ndK (acc.map kOf) && decide ((acc.map kOf).length < LIM)) = true := by rw [h4, Bool.true_and, List.length_map]; exact decide_eq_true hF
          simp only [putAt, D.key, hk, if_true]
          show some (CV.dic (dput (acc.map kOf) ((acc.map kOf).map gT') (Sum.inr v) (gT' (Sum.inr v))).1 (dput (acc.map kOf) ((acc.map kOf).map gT') (Sum.inr v) (gT' (Sum.inr v))).2) = _
          rw [pg]
        simp only [uq, c', Bool.false_eq_true, if_false]
        simp [EV.see, c2, aAppend_c hF, gSb, pt, ih]
theorem s_vars_of {t : Tm} (h : Good t) : VM.run T (n + 4) 10 [.dat t.d] μ = .ok (.new (.lst (uq [] (stD t)))) μ := by
  rw [run_at (nl := 5) (b := P_variables_of) (by rfl)]
  unfold P_variables_of
  have hl := Nat.le_trans (st_len t) h.sz
  obtain ⟨o3', o4', ks', e⟩ := vars_loop (F := VM.run T (n + 3)) (μ := μ) (some (.dat t.d)) (fun d hd => st_it t d hd) hl ((stD t).length + 1) 0 [] none none (Nat.zero_le _) (by omega) (Nat.zero_le _) rfl (fun d hd => by simp at hd)
  simp only [List.drop_zero] at e
  have dv : CV.dic [] [] = dicV [] := rfl
  simp [startE, dv, s_standings t h.ok h.nr h.dp h.sz, e, callEnd, EV.out]
theorem s_variables {t : Tm} (h : Good t) : VM.run T (n + 6) 18 [.dat t.d] μ = .ok (.new (.lst (uq [] (stD t)))) μ := by
  rw [run_at (nl := 1) (b := P_variables) (by rfl)]
  unfold P_variables
  simp [startE, s_want h, s_vars_of h, callEnd, EV.out]
end
end K12
set_option maxHeartbeats 0
namespace K12
open VM Law
open L2 (atI ixN)
theorem cut_take (l : List D) (k : Nat) : cutD l none (some (k : Int)) = l.take k := by
  unfold cutD
  simp only [HT.sIx_nat, HT.sIx_none, List.drop_zero, Nat.sub_zero]
  by_cases h : k ≤ l.length
  · rw [Nat.min_eq_left h]
  · rw [Nat.min_eq_right (by omega), List.take_length, List.take_of_length_le (by omega)]
theorem cut_drop (l : List D) (k : Nat) : cutD l (some (k : Int)) none = l.drop k := by
  unfold cutD
  simp only [HT.sIx_nat, HT.sIx_none]
  by_cases h : k ≤ l.length
  · rw [Nat.min_eq_left h, List.take_of_length_le (by rw [List.length_drop]; omega)]
  · rw [Nat.min_eq_right (by omega), Nat.sub_self, List.take_zero, List.drop_of_length_le (by omega)]
theorem lc_list {step : D → Sto → Res (Option D)} {μ : Sto} {ts : List Tm} {f : Tm → D} (h : ∀ t ∈ ts, step t.d μ = .ok (some (f t)) μ) (hl : ts.length ≤ 900) : lcLoop (.vals (ds ts)) step (ts.length + 1) 0 μ = .ok (ts.map f) μ := by
  have e := lc_pure (s := ds ts) (step := step) (g := fun d => match step d μ with | .ok o _ => o | _ => none) (μ := μ) (fun d hd => by
    rw [ds_map] at hd
    obtain ⟨t, ht, rfl⟩ := List.mem_map.mp hd
    rw [h t ht]) (ts.length + 1) 0 (Nat.zero_le _) (by rw [ds_len]; omega) (by rw [ds_len]; exact lim1 (by omega))
  rw [e, List.drop_zero, ds_map]
  congr 1
  clear e hl
  induction ts with
  | nil => rfl
  | cons t ts ih =>
    simp only [List.map_cons, List.filterMap_cons, h t List.mem_cons_self]
    rw [ih fun u hu => h u (List.mem_cons_of_mem _ hu)]
theorem max0 : ∀ (ts : List Tm) (m : Nat), maxI (m : Int) (ts.map fun t => (dep t : Int)) = ((max m (deps ts) : Nat) : Int)
  | [], m => by simp [maxI, deps]
  | t :: ts, m => by
    simp only [List.map_cons, maxI, deps]
    have e : (if (m : Int) < (dep t : Int) then (dep t : Int) else (m : Int)) = ((max m (dep t) : Nat) : Int) := by split <;> omega
    rw [e, max0 ts]
    omega
section
variable {n : Nat} {μ : Sto}
mutual
theorem l_depth : ∀ (t : Tm) (n : Nat), sz t ≤ 900 → VM.run T (n + dep t) 30 [.dat t.d] μ = .ok (.dat (.int (dep t))) μ
  | .num i, n, _ => by
    rw [show n + dep (.num i) = n + 1 from by simp [dep], run_at (nl := 2) (b := P__law_depth) (by rfl)]
    unfold P__law_depth
    have : isi .tuple (Tm.num i).d = false := rfl
    simp [startE, this, callEnd, EV.out, dep]
  | .var i, n, _ => by
    rw [show n + dep (.var i) = n + 1 from by simp [dep], run_at (nl := 2) (b := P__law_depth) (by rfl)]
    unfold P__law_depth
    have : isi .tuple (Tm.var i).d = false := rfl
    simp [startE, this, callEnd, EV.out, dep]
  | .rst i, n, _ => by
    rw [show n + dep (.rst i) = n + 1 from by simp [dep], run_at (nl := 2) (b := P__law_depth) (by rfl)]
    unfold P__law_depth
    have : isi .tuple (Tm.rst i).d = false := rfl
    simp [startE, this, callEnd, EV.out, dep]
  | .app h as, n, hs => by
    rw [show n + dep (.app h as) = (n + deps as) + 1 from by simp only [dep]; omega, run_at (nl := 2) (b := P__law_depth) (by rfl)]
    unfold P__law_depth
    have ht : isi .tuple (Tm.app h as).d = true := rfl
    have hs' : szs as ≤ 900 := by simp only [sz] at hs; omega
    have hl := len_szs as
    have lc := lc_list (ts := as) (step := lcStep (VM.run T (n + deps as)) (.nm 1) bYes (eCall 30 (evs [eV 1])) [some (.dat (Tm.app h as).d), none]) (f := fun t => .int (dep t)) (μ := μ) (fun t ht => by
      have e := l_depths as n hs' t ht
      simp [asg, e]) (by omega)
    have lm : as.length ≤ LIM := lim1 (by omega)
    have ad : opBin .Add (.lst [.int 0]) (.lst (as.map fun t => .int (dep t))) = some (.new (.lst (.int 0 :: as.map fun t => .int (dep t)))) := by
      show (if [D.int 0].length + (as.map fun t => D.int (dep t)).length ≤ LIM then some (EV.new (.lst ([D.int 0] ++ as.map fun t => D.int (dep t)))) else none) = _
      rw [if_pos (by rw [List.length_map]; exact lim1 (by simp; omega))]; rfl
    have mx : bMax [.lst (.int 0 :: as.map fun t => .int (dep t))] = some (.dat (.int (deps as))) := by
      have e : toInts (.int 0 :: as.map fun t => D.int (dep t)) = some (0 :: as.map fun t => (dep t : Int)) := by
        have := toInts_map (0 :: as.map fun t => (dep t : Int))
        simpa [Function.comp_def] using this
      simp only [bMax, e]
      have := max0 as 0
      simp only [Nat.zero_max] at this
      rw [show maxI 0 (as.map fun t => (dep t : Int)) = ((deps as : Nat) : Int) from this]
    have a1 : opBin .Add (.int 1) (.int (deps as)) = some (.dat (.int (dep (.app h as)))) := by
      simp only [dep]
      show some (EV.dat (.int (1 + (deps as : Int)))) = _
      congr 3
    simp [startE, ht, ix_app, ds_len, wipeE, lc, lm, ad, mx, a1, callEnd, EV.out]
theorem l_depths : ∀ (ts : List Tm) (n : Nat), szs ts ≤ 900 → ∀ t ∈ ts, VM.run T (n + deps ts) 30 [.dat t.d] μ = .ok (.dat (.int (dep t))) μ
  | [], n, _, t, ht => by simp at ht
  | u :: ts, n, hs, t, ht => by
    simp only [szs] at hs
    rcases List.mem_cons.mp ht with e | ht'
    · have := l_depth u (n + (deps (u :: ts) - dep u)) (by omega)
      rw [show n + (deps (u :: ts) - dep u) + dep u = n + deps (u :: ts) from by simp only [deps]; omega] at this
      rw [e]
      exact this
    · have := l_depths ts (n + (deps (u :: ts) - deps ts)) (by omega) t ht'
      rw [show n + (deps (u :: ts) - deps ts) + deps ts = n + deps (u :: ts) from by simp only [deps]; omega] at this
      exact this
end
end
end K12
set_option maxHeartbeats 0
namespace K12
open VM Law
open L2 (atI ixN)
mutual
theorem pre_len : ∀ (p : List Nat) (t : Tm), (pre p t).length = sz t
  | p, .app h as => by simp only [pre, sz, List.length_cons, pres_len p 0 as]; omega
  | p, .num i => by simp [pre, sz]
  | p, .var x => by simp [pre, sz]
  | p, .rst x => by simp [pre, sz]
theorem pres_len : ∀ (p : List Nat) (i : Nat) (ts : List Tm), (pres p i ts).length = szs ts
  | p, i, [] => by simp [pres, szs]
  | p, i, t :: ts => by simp only [pres, szs, List.length_append, pre_len (p ++ [i]) t, pres_len p (i + 1) ts]
end
theorem kids_szs (p : List Nat) : ∀ (i : Nat) (ts : List Tm), ((kidsAt p i ts).map fun q => sz q.2).sum = szs ts
  | _, [] => by simp [kidsAt, szs]
  | i, t :: ts => by simp only [kidsAt, szs, List.map_cons, List.sum_cons, kids_szs p (i + 1) ts]
theorem kids_len (p : List Nat) : ∀ (i : Nat) (ts : List Tm), (kidsAt p i ts).length = ts.length
  | _, [] => rfl
  | i, t :: ts => by simp only [kidsAt, List.length_cons, kids_len p (i + 1) ts]
section
variable {n : Nat} {μ : Sto}
/-- the comprehension over all enumerated children -/
theorem lc_enumA {step : D → Sto → Res (Option D)} {p : List Nat} {μ : Sto} {as : List Tm} (h : ∀ (j : Nat) (t : Tm), t ∈ as → step (.tup [.int (j : Nat), t.d]) μ = .ok (some (encQ (p ++ [j], t))) μ) (hl : as.length ≤ 900) :
    lcLoop (.vals (enumD (ds as))) step (as.length + 1) 0 μ = .ok ((kidsAt p 0 as).map encQ) μ := by
  have e := lc_pure (s := enumD (ds as)) (step := step) (g := fun d => match step d μ with | .ok o _ => o | _ => none) (μ := μ) (fun d hd => by
    obtain ⟨j, t, ht, rfl⟩ := enum_mem as 0 d hd
    rw [h j t ht]) (as.length + 1) 0 (Nat.zero_le _) (by rw [enumD_len, ds_len]; omega) (by rw [enumD_len, ds_len]; exact lim1 (by omega))
  rw [e, List.drop_zero]
  unfold enumD
  congr 1
  have key : ∀ (ts : List Tm) (i : Nat), (∀ t ∈ ts, t ∈ as) → (((ds ts).zipIdx i).map fun x => D.tup [.int (x.2 : Nat), x.1]).filterMap (fun d => match step d μ with | .ok o _ => o | _ => none) = (kidsAt p i ts).map encQ := by
    intro ts
    induction ts with
    | nil => intro i _; simp [ds, kidsAt]
    | cons t ts ih =>
      intro i hm
      simp only [ds, List.zipIdx_cons, List.map_cons, List.filterMap_cons, h i t (hm t List.mem_cons_self), kidsAt]
      rw [ih (i + 1) fun u hu => hm u (List.mem_cons_of_mem _ hu)]
  exact key as 0 fun t ht => ht
def rowB : SS := sSeq (sAsg (eIx (eV 1) (eV 2)) (gTp [gNm 3, gNm 4])) (sSeq (sIf (bTru (eIsi .tuple (eV 4))) (sSeq (sSet 5 (eLc (iEnm (eIx (eV 4) (eC (.int 1)))) (.tup [.nm 6, .nm 7]) (bYes) (eTup (evs [eBin .Add (eV 3) (eTup (evs [eV 6])), eV 7])) [6, 7])) (sSet 1 (eBin .Add (eBin .Add (eSl (eV 1) (oNone) (oSome (eBin .Add (eV 2) (eC (.int 1))))) (eV 5)) (eSl (eV 1) (oSome (eBin .Add (eV 2) (eC (.int 1)))) (oNone))))) (sPass)) (sSet 2 (eBin .Add (eV 2) (eC (.int 1)))))
theorem addL {xs ys : List D} (h : xs.length + ys.length ≤ 1000) : opBin .Add (.lst xs) (.lst ys) = some (.new (.lst (xs ++ ys))) := if_pos (lim1 h)
theorem enc_at {A R : List (List Nat × Tm)} {q : List Nat × Tm} : opIx (.lst ((A ++ q :: R).map encQ)) (.int (A.length : Nat)) = some (.dat (encQ q)) := by
  show (atI _ _).map EV.dat = _
  unfold L2.atI L2.ixN
  rw [if_pos (by omega), if_pos (by simp; omega)]
  simp
theorem rows_loop {F : Fns} (o0 : Option SV) : ∀ (m : Nat) (A R : List (List Nat × Tm)) (kf : Nat) (X : Sto) (o3 o4 o5 o6 o7 : Option SV), X[kf]? = some ⟨true, .lst ((A ++ R).map encQ)⟩ → (∀ q ∈ R, q.1.length + dep q.2 ≤ 30) → (R.map fun q => sz q.2).sum < m → A.length + (R.map fun q => sz q.2).sum ≤ 450 →
    ∃ kf' Y q3 q4 q5 q6 q7 k2, whL (bCmp (opCmp .Lt) (eV 2) (eCb bLen (evs [eV 1])) F) (rowB F) m [o0, some (.cel kf), some (.dat (.int (A.length : Nat))), o3, o4, o5, o6, o7] X = .ok (.nx [o0, some (.cel kf'), some (.dat (.int (k2 : Nat))), q3, q4, q5, q6, q7]) (X ++ Y) ∧
      (X ++ Y)[kf']? = some ⟨true, .lst ((A ++ R.flatMap fun q => pre q.1 q.2).map encQ)⟩ ∧ (kf' = kf ∨ X.length ≤ kf')
  | 0, A, R, kf, X, o3, o4, o5, o6, o7, hk, hd, hm, hB => by omega
  | m + 1, A, [], kf, X, o3, o4, o5, o6, o7, hk, hd, hm, hB => by
    refine ⟨kf, [], o3, o4, o5, o6, o7, A.length, ?_, by simpa using hk, .inl rfl⟩
    rw [List.append_nil] at hk
    have c : opCmp .Lt (.int (A.length : Nat)) (.int ((A.map encQ).length : Nat)) = some false := by simp [opCmp, opI]
    unfold whL
    simp [EV.see, hk, bLen]
    simp at c
    simp [c]
  | m + 1, A, (p, t) :: R, kf, X, o3, o4, o5, o6, o7, hk, hd, hm, hB => by
    have hkl : kf < X.length := (List.getElem?_eq_some_iff.mp hk).1
    rw [List.map_cons, List.sum_cons] at hm hB
    have hm : sz t + (R.map fun q => sz q.2).sum < m + 1 := hm
    have hB : A.length + (sz t + (R.map fun q => sz q.2).sum) ≤ 450 := hB
    have hd0 : p.length + dep t ≤ 30 := hd (p, t) List.mem_cons_self
    have hdR : ∀ q ∈ R, q.1.length + dep q.2 ≤ 30 := fun q hq => hd q (List.mem_cons_of_mem _ hq)
    have c : opCmp .Lt (.int (A.length : Nat)) (.int (((A ++ (p, t) :: R).map encQ).length : Nat)) = some true := by simp [opCmp, opI]; omega
    have hsl := sum_len (f := fun q : List Nat × Tm => sz q.2) (fun q => sz_pos q.2) R
    have step : ∀ (kf' : Nat) (X' : Sto) (R' : List (List Nat × Tm)) (a b c' d' e' : Option SV), rowB F [o0, some (.cel kf), some (.dat (.int (A.length : Nat))), o3, o4, o5, o6, o7] X = .ok (.nx [o0, some (.cel kf'), some (.dat (.int ((A.length : Int) + 1))), a, b, c', d', e']) X' →
        whL (bCmp (opCmp .Lt) (eV 2) (eCb bLen (evs [eV 1])) F) (rowB F) (m + 1) [o0, some (.cel kf), some (.dat (.int (A.length : Nat))), o3, o4, o5, o6, o7] X = whL (bCmp (opCmp .Lt) (eV 2) (eCb bLen (evs [eV 1])) F) (rowB F) m [o0, some (.cel kf'), some (.dat (.int ((A ++ [(p, t)]).length : Nat))), a, b, c', d', e'] X' := fun kf' X' R' a b c' d' e' hs => by
      have cond : bCmp (opCmp .Lt) (eV 2) (eCb bLen (evs [eV 1])) F [o0, some (.cel kf), some (.dat (.int (A.length : Nat))), o3, o4, o5, o6, o7] X = .ok true X := by
        simp [EV.see, hk, bLen]
        simp at c
        simp [c]
      rw [whL.eq_2, cond, Res.bind_ok, hs]
      simp
    have leaf : isi .tuple t.d = false → pre p t = [(p, t)] → ∃ kf' Y q3 q4 q5 q6 q7 k2, whL (bCmp (opCmp .Lt) (eV 2) (eCb bLen (evs [eV 1])) F) (rowB F) (m + 1) [o0, some (.cel kf), some (.dat (.int (A.length : Nat))), o3, o4, o5, o6, o7] X = .ok (.nx [o0, some (.cel kf'), some (.dat (.int (k2 : Nat))), q3, q4, q5, q6, q7]) (X ++ Y) ∧
        (X ++ Y)[kf']? = some ⟨true, .lst ((A ++ ((p, t) :: R).flatMap fun q => pre q.1 q.2).map encQ)⟩ ∧ (kf' = kf ∨ X.length ≤ kf') := fun ti hp => by
      have b1 : rowB F [o0, some (.cel kf), some (.dat (.int (A.length : Nat))), o3, o4, o5, o6, o7] X = .ok (.nx [o0, some (.cel kf), some (.dat (.int ((A.length : Int) + 1))), some (.dat (pD p)), some (.dat t.d), o5, o6, o7]) X := by
        have hx := enc_at (A := A) (R := R) (q := (p, t))
        unfold rowB
        simp only [List.map_append, List.map_cons, encQ] at hk hx
        simp [EV.see, hk, hx, ti, addI]
      obtain ⟨kf', Y, a3, a4, a5, a6, a7, k2, e1, e2, e3⟩ := rows_loop (F := F) o0 m (A ++ [(p, t)]) R kf X (some (.dat (pD p))) (some (.dat t.d)) o5 o6 o7 (by simpa using hk) hdR (by have := sz_pos t; omega) (by rw [List.length_append, List.length_singleton]; have := sz_pos t; omega)
      refine ⟨kf', Y, a3, a4, a5, a6, a7, k2, ?_, ?_, e3⟩
      · rw [step _ _ R _ _ _ _ _ b1]
        exact e1
      · rw [e2, List.flatMap_cons, hp]
        simp
    cases t with
    | num i => exact leaf rfl (by simp [pre])
    | var x => exact leaf rfl (by simp [pre])
    | rst x => exact leaf rfl (by simp [pre])
    | app h as =>
      have hs0 : sz (.app h as) = 1 + szs as := by simp only [sz]
      have hl := len_szs as
      have hp : p.length ≤ 100 := by have : p.length + dep (.app h as) ≤ 30 := hd0; omega
      have b1 : rowB F [o0, some (.cel kf), some (.dat (.int (A.length : Nat))), o3, o4, o5, o6, o7] X = .ok (.nx [o0, some (.cel (X.length + 1)), some (.dat (.int ((A.length : Int) + 1))), some (.dat (pD p)), some (.dat (Tm.app h as).d), some (.cel X.length), o6, o7])
          (X ++ [⟨true, .lst ((kidsAt p 0 as).map encQ)⟩, ⟨true, .lst (((A ++ [(p, Tm.app h as)]) ++ (kidsAt p 0 as ++ R)).map encQ)⟩]) := by
        have hx := enc_at (A := A) (R := R) (q := (p, Tm.app h as))
        have ti : isi .tuple (Tm.app h as).d = true := rfl
        have lc := lc_enumA (as := as) (p := p) (step := lcStep F (.tup [.nm 6, .nm 7]) bYes (eTup (evs [eBin .Add (eV 3) (eTup (evs [eV 6])), eV 7])) [o0, some (.cel kf), some (.dat (.int (A.length : Nat))), some (.dat (pD p)), some (.dat (Tm.app h as).d), o5, none, none]) (μ := X) (fun j t ht => by
          simp [asg, asgs, pD_app p j hp, encQ]) (by omega)
        have lm : (kidsAt p 0 as).length ≤ LIM := by rw [kids_len]; exact lim1 (by omega)
        have hk2 : (X ++ [⟨true, .lst ((kidsAt p 0 as).map encQ)⟩])[kf]? = some ⟨true, .lst ((A ++ (p, Tm.app h as) :: R).map encQ)⟩ := by
          rw [List.getElem?_append_left hkl]; exact hk
        have sl1 : opSl (.lst ((A ++ (p, Tm.app h as) :: R).map encQ)) none (some ((A.length : Int) + 1)) = some (.new (.lst ((A ++ [(p, Tm.app h as)]).map encQ))) := by
          have := cut_take ((A ++ (p, Tm.app h as) :: R).map encQ) (A.length + 1)
          show some (EV.new (.lst (cutD _ none (some ((A.length : Int) + 1))))) = _
          rw [show ((A.length : Int) + 1) = ((A.length + 1 : Nat) : Int) from rfl, this, ← List.map_take]
          congr 4
          rw [show A ++ (p, Tm.app h as) :: R = (A ++ [(p, Tm.app h as)]) ++ R by simp]
          exact List.take_left' (by simp)
        have sl2 : opSl (.lst ((A ++ (p, Tm.app h as) :: R).map encQ)) (some ((A.length : Int) + 1)) none = some (.new (.lst (R.map encQ))) := by
          have := cut_drop ((A ++ (p, Tm.app h as) :: R).map encQ) (A.length + 1)
          show some (EV.new (.lst (cutD _ (some ((A.length : Int) + 1)) none))) = _
          rw [show ((A.length : Int) + 1) = ((A.length + 1 : Nat) : Int) from rfl, this, ← List.map_drop]
          congr 4
          rw [List.drop_append]
          simp
        have ad1 := addL (xs := (A ++ [(p, Tm.app h as)]).map encQ) (ys := (kidsAt p 0 as).map encQ) (by rw [List.length_map, List.length_map, kids_len, List.length_append]; simp; omega)
        have ad2 := addL (xs := (A ++ [(p, Tm.app h as)]).map encQ ++ (kidsAt p 0 as).map encQ) (ys := R.map encQ) (by rw [List.length_append, List.length_map, List.length_map, List.length_map, kids_len, List.length_append]; simp; omega)
        have e0 : (A ++ [(p, Tm.app h as)] ++ (kidsAt p 0 as ++ R)).map encQ = (A ++ [(p, Tm.app h as)]).map encQ ++ (kidsAt p 0 as).map encQ ++ R.map encQ := by simp
        rw [e0]
        generalize eA : (A ++ [(p, Tm.app h as)]).map encQ = LA at sl1 ad1 ad2 ⊢
        generalize eF : (A ++ (p, Tm.app h as) :: R).map encQ = LF at hk hk2 hx sl1 sl2 ⊢
        generalize eK : (kidsAt p 0 as).map encQ = LK at hk2 lc ad1 ad2 ⊢
        have lm2 : LK.length ≤ LIM := by rw [← eK, List.length_map]; exact lm
        have ex : encQ (p, Tm.app h as) = .tup [pD p, (Tm.app h as).d] := rfl
        unfold rowB
        simp [EV.see, hk, hx, ex, ti, ix_app, isTx, Src.enum, enumD_len, ds_len, wipeE, lc, lm2, hk2, oNone, oSome, addI, sl1, sl2, ad1, ad2]
      have ks := kids_szs p 0 as
      have hdk : ∀ q ∈ kidsAt p 0 as ++ R, q.1.length + dep q.2 ≤ 30 := fun q hq => by
        rcases List.mem_append.mp hq with hq | hq
        · obtain ⟨m1, m2⟩ := kids_mem hq
          have := deps_mem m1
          have h0 : p.length + (1 + deps as) ≤ 30 := by simpa only [dep] using hd0
          omega
        · exact hdR q hq
      have sm : ((kidsAt p 0 as ++ R).map fun q => sz q.2).sum = szs as + (R.map fun q => sz q.2).sum := by rw [List.map_append, List.sum_append, ks]
      obtain ⟨kf', Y, a3, a4, a5, a6, a7, k2, e1, e2, e3⟩ := rows_loop (F := F) o0 m (A ++ [(p, Tm.app h as)]) (kidsAt p 0 as ++ R) (X.length + 1) (X ++ [⟨true, .lst ((kidsAt p 0 as).map encQ)⟩, ⟨true, .lst (((A ++ [(p, Tm.app h as)]) ++ (kidsAt p 0 as ++ R)).map encQ)⟩])
        (some (.dat (pD p))) (some (.dat (Tm.app h as).d)) (some (.cel X.length)) o6 o7 (by rw [get_a1]) hdk (by rw [sm]; omega) (by rw [sm, List.length_append, List.length_singleton]; omega)
      refine ⟨kf', ([⟨true, .lst ((kidsAt p 0 as).map encQ)⟩, ⟨true, .lst (((A ++ [(p, Tm.app h as)]) ++ (kidsAt p 0 as ++ R)).map encQ)⟩] : Sto) ++ Y, a3, a4, a5, a6, a7, k2, ?_, ?_, ?_⟩
      · rw [step _ _ R _ _ _ _ _ b1]
        rw [← List.append_assoc X]
        exact e1
      · rw [← List.append_assoc X, e2, List.flatMap_append, List.flatMap_cons]
        have : pre p (Tm.app h as) = (p, Tm.app h as) :: (kidsAt p 0 as).flatMap fun q => pre q.1 q.2 := by simp only [pre, pres_flat]
        rw [this]
        simp
      · right
        rcases e3 with e3 | e3
        · omega
        · rw [List.length_append] at e3
          omega
theorem s_rows {t : Tm} (g : Good t) : VM.run T (n + 1) 29 [.dat t.d] μ = .ok (.new (.lst ((pre [] t).map encQ))) μ := by
  rw [run_at (nl := 8) (b := P__law_rows) (by rfl)]
  unfold P__law_rows
  have gs := g.sz
  have gd := g.dp
  obtain ⟨kf', Y, a3, a4, a5, a6, a7, k2, e1, e2, e3⟩ := rows_loop (F := VM.run T n) (some (.dat t.d)) LIM [] [([], t)] μ.length (μ ++ [⟨true, .lst [encQ ([], t)]⟩]) none none none none none (by simp) (by simp; omega) (by simp; exact lim2 (by omega)) (by simpa using gs)
  simp only [List.length_nil, List.flatMap_cons, List.flatMap_nil, List.nil_append, List.append_nil] at e1 e2
  have e0 : encQ ([], t) = .tup [.tup [], t.d] := rfl
  have z : ((0 : Nat) : Int) = 0 := rfl
  have hk : ¬ kf' < μ.length := by
    rcases e3 with e3 | e3
    · omega
    · rw [List.length_append] at e3; omega
  rw [e0, z] at e1
  rw [e0] at e2
  have f1 : (μ ++ ([⟨true, .lst [D.tup [.tup [], t.d]]⟩] : Sto) ++ Y).take μ.length = μ := by rw [List.append_assoc]; exact take_a
  unfold rowB at e1
  simp only [startE, xs_seq, xs_par, x_lst, x_evs, x_evs0, x_tup, Res.bind_ok, frzs_nil, frzs_cons, frz_dat]
  simp
  simp at e1
  rw [e1]
  simp at e2 f1
  simp [callEnd, EV.out, hk, e2, f1]
end
end K12
set_option maxHeartbeats 0
namespace K12
open VM Law
open L2 (atI ixN)
def rowD : Tm → Option D
  | .num _ => none
  | .var x => some (.tup [.str "term", .str (vS x)])
  | .rst x => some (.tup [.str "rest", .str (rV x)])
  | .app h _ => if hV h then some (.tup [.str "head", .str (hS h)]) else none
mutual
theorem pre_st : ∀ (p : List Nat) (t : Tm), (pre p t).filterMap (fun q => rowD q.2) = stD t
  | p, .app h as => by
    simp only [pre, stD, List.filterMap_cons]
    rw [pres_st p 0 as]
    by_cases c : hV h = true <;> simp [c, rowD]
  | p, .num i => by simp [pre, stD, rowD]
  | p, .var x => by simp [pre, stD, rowD]
  | p, .rst x => by simp [pre, stD, rowD]
theorem pres_st : ∀ (p : List Nat) (i : Nat) (ts : List Tm), (pres p i ts).filterMap (fun q => rowD q.2) = stDs ts
  | p, i, [] => by simp [pres, stDs]
  | p, i, t :: ts => by simp only [pres, stDs, List.filterMap_append, pre_st (p ++ [i]) t, pres_st p (i + 1) ts]
end
theorem row_it {t : Tm} {d : D} (h : rowD t = some d) : It d := by
  cases t with
  | num i => cases h
  | var x => cases h; exact ⟨vS x, by rw [srt_v], vS_fits x 0⟩
  | rst x => cases h; exact ⟨rV x, by rw [srt_r], rV_fits x 0⟩
  | app hh as =>
    simp only [rowD] at h
    by_cases c : hV hh = true
    · rw [if_pos c] at h
      cases h
      exact ⟨hS hh, by rw [srt_h hh c], hS_fits hh 0⟩
    · rw [if_neg c] at h; cases h
theorem srt_fits (v : PySem.Str) (n : Nat) : fits n (.str (srt v)) = true := by
  have a : ∀ s : PySem.Str, (s.cps.toList.all fun c => decide (c < 0x110000)) = true → fits n (.str s) = true := fun s h => by cases n <;> simpa only [fits] using h
  unfold srt
  split
  · exact a _ (by decide +kernel)
  · split
    · exact a _ (by decide +kernel)
    · exact a _ (by decide +kernel)
theorem fits_up {v : PySem.Str} (h : fits 0 (.str v) = true) (n : Nat) : fits n (.str v) = true := by cases n <;> simpa only [fits] using h
theorem it_fits {d : D} (h : It d) (n : Nat) : fits (n + 1) d = true := by
  obtain ⟨v, rfl, hv⟩ := h
  have h1 := srt_fits v 0
  have h2 := hv
  simp only [fits] at h1 h2
  simp only [fits, fitsAll, h1, h2, Bool.and_true]
theorem cps_eq {a b : PySem.Str} (h : (a.cps.toList == b.cps.toList) = true) : a = b := by
  rw [beq_iff_eq] at h
  cases a; cases b
  simp only [PySem.Str.mk.injEq]
  exact Array.toList_inj.mp h
theorem eqv_it {d e : D} (hd : It d) (he : It e) : eqv d e = keyEq (kOf d) (kOf e) := by
  obtain ⟨v, rfl, _⟩ := hd
  obtain ⟨w, rfl, _⟩ := he
  simp only [eqv, eqvs, kOf, keyEq, Bool.and_true]
  by_cases c : (v.cps.toList == w.cps.toList) = true
  · rw [cps_eq c]; simp
  · have c' : (v.cps.toList == w.cps.toList) = false := by simpa using c
    rw [c', Bool.and_false]
theorem in_acc {acc : List D} {d : D} (ha : ∀ e ∈ acc, It e) (hd : It d) : opCmp .NotIn d (.lst acc) = some (!hasV acc d) := by
  have f1 : fits 64 d = true := it_fits hd 63
  have f2 : fitsAll 63 acc = true := fitsAll_mem fun e he => it_fits (ha e he) 62
  have e : (acc.any fun e => eqv e d) = hasV acc d := by
    unfold hasV dhas
    rw [List.any_map]
    clear f2
    induction acc with
    | nil => rfl
    | cons a acc ih =>
      rw [List.any_cons, List.any_cons, ih fun e he => ha e (List.mem_cons_of_mem _ he), eqv_it (ha a List.mem_cons_self) hd]
      rfl
  show (if (fits 64 d && fitsAll 63 acc) = true then some (acc.any fun e => eqv e d) else none).map (!·) = _
  rw [f1, f2, Bool.and_self, if_pos rfl, e]; rfl
def c0 : Fin 6 → PySem.Str
  | 0 => "a" | 1 => "f" | 2 => "g" | 3 => "p" | 4 => "H" | 5 => "K"
theorem head0 : ∀ h : Fin 6, opIx (.str (hS h)) (.int 0) = some (.dat (.str (c0 h)))
  | 0 => by kernel_rfl
  | 1 => by kernel_rfl
  | 2 => by kernel_rfl
  | 3 => by kernel_rfl
  | 4 => by kernel_rfl
  | 5 => by kernel_rfl
theorem headIn : ∀ h : Fin 6, opCmp .In (.str (c0 h)) (.str "ABCDEFGHIJKLMNOPQRSTUVWXYZ") = some (hV h)
  | 0 => by kernel_rfl
  | 1 => by kernel_rfl
  | 2 => by kernel_rfl
  | 3 => by kernel_rfl
  | 4 => by kernel_rfl
  | 5 => by kernel_rfl
section
variable {n : Nat} {μ : Sto}
def varB : SS := sSeq (sIf (bTru (eCall 28 (evs [eV 3]))) (sSet 4 (eTup (evs [eC (.str "rest"), eSl (eV 3) (oSome (eC (.int 1))) (oNone)]))) (sIf (bTru (eIsi .str (eV 3))) (sSet 4 (eTup (evs [eC (.str "term"), eV 3]))) (sIf (bAnd (bTru (eIsi .tuple (eV 3))) (bCmp (opCmp .In) (eIx (eIx (eV 3) (eC (.int 0))) (eC (.int 0))) (eC (.str "ABCDEFGHIJKLMNOPQRSTUVWXYZ")))) (sSet 4 (eTup (evs [eC (.str "head"), eIx (eV 3) (eC (.int 0))]))) (sSet 4 (eC .non))))) (sIf (bAnd (bCmp (opCmp .IsNot) (eV 4) (eC .non)) (bCmp (opCmp .NotIn) (eV 4) (eV 1))) (sDrop (eCM aAppend (eV 1) (evs [eV 4]))) (sPass))
theorem isn_tup {l : List D} : opCmp .IsNot (.tup l) .non = some true := rfl
theorem isn_non : opCmp .IsNot .non .non = some false := rfl
/-- one row -/
theorem var_step (o0 o4 : Option SV) (p : List Nat) (t : Tm) (acc : List D) (ha : ∀ e ∈ acc, It e) (hl : acc.length ≤ 900) : ∃ o4', varB (VM.run T (n + 1)) [o0, some (.cel μ.length), some (.dat (pD p)), some (.dat t.d), o4] (μ ++ [⟨true, .lst acc⟩]) =
    .ok (.nx [o0, some (.cel μ.length), some (.dat (pD p)), some (.dat t.d), o4']) (μ ++ [⟨true, .lst (match rowD t with | some d => if hasV acc d then acc else acc ++ [d] | none => acc)⟩]) := by
  have hF : acc.length < LIM := lim2 (by omega)
  have last : ∀ (d : D), It d → ∀ {ρ : Env}, ρ = [o0, some (.cel μ.length), some (.dat (pD p)), some (.dat t.d), some (.dat d)] → sIf (bAnd (bCmp (opCmp .IsNot) (eV 4) (eC .non)) (bCmp (opCmp .NotIn) (eV 4) (eV 1))) (sDrop (eCM aAppend (eV 1) (evs [eV 4]))) (sPass) (VM.run T (n + 1)) ρ (μ ++ [⟨true, .lst acc⟩]) =
      .ok (.nx ρ) (μ ++ [⟨true, .lst (if hasV acc d then acc else acc ++ [d])⟩]) := fun d hd ρ hρ => by
    subst hρ
    have i1 := in_acc ha hd
    have i2 : opCmp .IsNot d .non = some true := by obtain ⟨v, rfl, _⟩ := hd; rfl
    cases c : hasV acc d <;> rw [c] at i1 <;> simp [EV.see, i1, i2, aAppend_c hF]
  cases t with
  | num i =>
    refine ⟨some (.dat .non), ?_⟩
    have h1 : isi .str (Tm.num i).d = false := rfl
    have h2 : isi .tuple (Tm.num i).d = false := rfl
    unfold varB
    simp [l_isRest, isR, h1, h2, isn_non, rowD]
  | var x =>
    have hr : rowD (.var x) = some (.tup [.str "term", .str (vS x)]) := rfl
    have h1 : isi .str (Tm.var x).d = true := rfl
    have l := last _ (row_it hr) rfl
    have e : (Tm.var x).d = .str (vS x) := by simp only [Tm.d]
    refine ⟨some (.dat (.tup [.str "term", .str (vS x)])), ?_⟩
    unfold varB
    rw [hr]
    rw [xs_seq]
    have first : sIf (bTru (eCall 28 (evs [eV 3]))) (sSet 4 (eTup (evs [eC (.str "rest"), eSl (eV 3) (oSome (eC (.int 1))) (oNone)]))) (sIf (bTru (eIsi .str (eV 3))) (sSet 4 (eTup (evs [eC (.str "term"), eV 3]))) (sIf (bAnd (bTru (eIsi .tuple (eV 3))) (bCmp (opCmp .In) (eIx (eIx (eV 3) (eC (.int 0))) (eC (.int 0))) (eC (.str "ABCDEFGHIJKLMNOPQRSTUVWXYZ")))) (sSet 4 (eTup (evs [eC (.str "head"), eIx (eV 3) (eC (.int 0))]))) (sSet 4 (eC .non)))) (VM.run T (n + 1)) [o0, some (.cel μ.length), some (.dat (pD p)), some (.dat (Tm.var x).d), o4] (μ ++ [⟨true, .lst acc⟩]) =
        .ok (.nx [o0, some (.cel μ.length), some (.dat (pD p)), some (.dat (Tm.var x).d), some (.dat (.tup [.str "term", (Tm.var x).d]))]) (μ ++ [⟨true, .lst acc⟩]) := by simp [l_isRest, isR, h1]
    rw [first, e]
    rw [e] at l
    exact l
  | rst x =>
    have hr : rowD (.rst x) = some (.tup [.str "rest", .str (rV x)]) := rfl
    have l := last _ (row_it hr) rfl
    refine ⟨some (.dat (.tup [.str "rest", .str (rV x)])), ?_⟩
    unfold varB
    rw [hr]
    rw [xs_seq]
    have first : sIf (bTru (eCall 28 (evs [eV 3]))) (sSet 4 (eTup (evs [eC (.str "rest"), eSl (eV 3) (oSome (eC (.int 1))) (oNone)]))) (sIf (bTru (eIsi .str (eV 3))) (sSet 4 (eTup (evs [eC (.str "term"), eV 3]))) (sIf (bAnd (bTru (eIsi .tuple (eV 3))) (bCmp (opCmp .In) (eIx (eIx (eV 3) (eC (.int 0))) (eC (.int 0))) (eC (.str "ABCDEFGHIJKLMNOPQRSTUVWXYZ")))) (sSet 4 (eTup (evs [eC (.str "head"), eIx (eV 3) (eC (.int 0))]))) (sSet 4 (eC .non)))) (VM.run T (n + 1)) [o0, some (.cel μ.length), some (.dat (pD p)), some (.dat (Tm.rst x).d), o4] (μ ++ [⟨true, .lst acc⟩]) =
        .ok (.nx [o0, some (.cel μ.length), some (.dat (pD p)), some (.dat (Tm.rst x).d), some (.dat (.tup [.str "rest", .str (rV x)]))]) (μ ++ [⟨true, .lst acc⟩]) := by simp [l_isRest, isR, oSome, oNone, rest_cut']
    rw [first]
    exact l
  | app h as =>
    have h1 : isi .str (Tm.app h as).d = false := rfl
    have h2 : isi .tuple (Tm.app h as).d = true := rfl
    cases c : hV h with
    | true =>
      have hr : rowD (.app h as) = some (.tup [.str "head", .str (hS h)]) := by simp [rowD, c]
      have l := last _ (row_it hr) rfl
      refine ⟨some (.dat (.tup [.str "head", .str (hS h)])), ?_⟩
      unfold varB
      rw [hr]
      rw [xs_seq]
      have first : sIf (bTru (eCall 28 (evs [eV 3]))) (sSet 4 (eTup (evs [eC (.str "rest"), eSl (eV 3) (oSome (eC (.int 1))) (oNone)]))) (sIf (bTru (eIsi .str (eV 3))) (sSet 4 (eTup (evs [eC (.str "term"), eV 3]))) (sIf (bAnd (bTru (eIsi .tuple (eV 3))) (bCmp (opCmp .In) (eIx (eIx (eV 3) (eC (.int 0))) (eC (.int 0))) (eC (.str "ABCDEFGHIJKLMNOPQRSTUVWXYZ")))) (sSet 4 (eTup (evs [eC (.str "head"), eIx (eV 3) (eC (.int 0))]))) (sSet 4 (eC .non)))) (VM.run T (n + 1)) [o0, some (.cel μ.length), some (.dat (pD p)), some (.dat (Tm.app h as).d), o4] (μ ++ [⟨true, .lst acc⟩]) =
          .ok (.nx [o0, some (.cel μ.length), some (.dat (pD p)), some (.dat (Tm.app h as).d), some (.dat (.tup [.str "head", .str (hS h)]))]) (μ ++ [⟨true, .lst acc⟩]) := by simp [l_isRest, isR, h1, h2, ix_app0, head0, headIn, c]
      rw [first]
      exact l
    | false =>
      have hr : rowD (.app h as) = none := by simp [rowD, c]
      refine ⟨some (.dat .non), ?_⟩
      unfold varB
      simp [l_isRest, isR, h1, h2, ix_app0, head0, headIn, c, isn_non, hr]
theorem lvars_loop {k : Nat} {Q : List (List Nat × Tm)} (hk : μ[k]? = some ⟨true, .lst (Q.map encQ)⟩) (hl : Q.length ≤ 450) : ∀ (m i : Nat) (acc : List D) (o2 o3 o4 : Option SV), i ≤ Q.length → Q.length < i + m → acc.length ≤ i → (∀ d ∈ acc, It d) →
    ∃ q2 q3 q4, forL (VM.run T (n + 1)) (.cell k) (gTp [gNm 2, gNm 3]) varB m i [some (.cel k), some (.cel μ.length), o2, o3, o4] (μ ++ [⟨true, .lst acc⟩]) =
      .ok (.nx [some (.cel k), some (.cel μ.length), q2, q3, q4]) (μ ++ [⟨true, .lst (uq acc ((Q.drop i).filterMap fun q => rowD q.2))⟩])
  | 0, i, acc, o2, o3, o4, h1, h2, _, _ => by omega
  | m + 1, i, acc, o2, o3, o4, h1, h2, h3, h5 => by
    have hkl : k < μ.length := (List.getElem?_eq_some_iff.mp hk).1
    have hat : (Src.cell k).at (μ ++ [⟨true, .lst acc⟩]) = some (Q.map encQ) := by
      simp only [Src.at]
      rw [List.getElem?_append_left hkl, hk]
    unfold forL
    rw [hat]
    simp only [List.getElem?_map]
    cases e : Q[i]? with
    | none =>
      have : Q.length ≤ i := List.getElem?_eq_none_iff.mp e
      refine ⟨o2, o3, o4, ?_⟩
      rw [List.drop_eq_nil_of_le this]; rfl
    | some q =>
      obtain ⟨p, t⟩ := q
      have hi : i < Q.length := (List.getElem?_eq_some_iff.mp e).1
      have ed : Q.drop i = (p, t) :: Q.drop (i + 1) := by
        rw [List.drop_eq_getElem_cons hi]
        congr 1
        exact (List.getElem?_eq_some_iff.mp e).2
      obtain ⟨o4', e4⟩ := var_step (n := n) (μ := μ) (some (.cel k)) o4 p t acc h5 (by omega)
      have acc' : ∃ acc2 : List D, (match rowD t with | some d => if hasV acc d then acc else acc ++ [d] | none => acc) = acc2 ∧ acc2.length ≤ i + 1 ∧ (∀ d ∈ acc2, It d) ∧ uq acc (((p, t) :: Q.drop (i + 1)).filterMap fun q => rowD q.2) = uq acc2 ((Q.drop (i + 1)).filterMap fun q => rowD q.2) := by
        cases hr : rowD t with
        | none => exact ⟨acc, rfl, by omega, h5, by simp [hr]⟩
        | some d =>
          by_cases c : hasV acc d = true
          · exact ⟨acc, by simp [c], by omega, h5, by simp [hr, uq, c]⟩
          · refine ⟨acc ++ [d], by simp [c], by simp; omega, fun e he => (List.mem_append.mp he).elim (h5 e) fun he => ?_, by simp [hr, uq, c]⟩
            rw [List.mem_singleton.mp he]
            exact row_it hr
      obtain ⟨acc2, a1, a2, a3, a4⟩ := acc'
      rw [a1] at e4
      obtain ⟨q2, q3, q4, ih⟩ := lvars_loop hk hl m (i + 1) acc2 (some (.dat (pD p))) (some (.dat t.d)) o4' (by omega) (by omega) a2 a3
      refine ⟨q2, q3, q4, ?_⟩
      rw [ed, a4, ← ih]
      simp [encQ, e4]
theorem l_vars {k : Nat} {t : Tm} (g : Good t) (hk : μ[k]? = some ⟨true, .lst ((pre [] t).map encQ)⟩) : VM.run T (n + 2) 31 [.cel k] μ = .ok (.new (.lst (uq [] (stD t)))) μ := by
  rw [run_at (nl := 5) (b := P__law_variables) (by rfl)]
  unfold P__law_variables
  have hkl : k < μ.length := (List.getElem?_eq_some_iff.mp hk).1
  have hl : (pre [] t).length ≤ 450 := by rw [pre_len]; exact g.sz
  obtain ⟨q2, q3, q4, e⟩ := lvars_loop (n := n) hk hl ((pre [] t).length + 1) 0 [] none none none (Nat.zero_le _) (by omega) (Nat.zero_le _) (fun d hd => by simp at hd)
  rw [List.drop_zero, pre_st] at e
  have sl : (Src.cell k).len (μ ++ [⟨true, .lst []⟩]) = (pre [] t).length := by
    simp only [Src.len, Src.at]
    rw [List.getElem?_append_left hkl, hk]
    simp
  have so : srcOf (.cel k) (μ ++ [⟨true, .lst []⟩]) = some (.cell k) := by
    simp only [srcOf]
    rw [List.getElem?_append_left hkl, hk]
  unfold varB at e
  simp [startE, so, sl, e, callEnd, EV.out]
end
end K12
set_option maxHeartbeats 0
namespace K12
open VM Law
open L2 (atI ixN)
/-! the draws -/
def potC (a b : Int) : Cell := ⟨true, .lst [.int a, .int b]⟩
def PotAt (μ : Sto) (k : Nat) : Prop := ∃ a b : Int, μ[k]? = some (potC a b)
def Nxt (μ μ' : Sto) (k : Nat) : Prop := ∃ a b : Int, μ' = μ.set k (potC a b)
section
variable {n k : Nat} {μ μ' μ2 E : Sto}
theorem PotAt.lt (h : PotAt μ k) : k < μ.length := let ⟨_, _, h⟩ := h; (List.getElem?_eq_some_iff.mp h).1
theorem Nxt.refl (h : PotAt μ k) : Nxt μ μ k := by
  obtain ⟨a, b, h⟩ := h
  have hk := (List.getElem?_eq_some_iff.mp h).1
  have e := (List.getElem?_eq_some_iff.mp h).2
  exact ⟨a, b, by rw [← e, List.set_getElem_self]⟩
theorem Nxt.len (h : Nxt μ μ' k) : μ'.length = μ.length := by obtain ⟨a, b, rfl⟩ := h; exact List.length_set
theorem Nxt.pot (h : Nxt μ μ' k) (hk : k < μ.length) : PotAt μ' k := by obtain ⟨a, b, rfl⟩ := h; exact ⟨a, b, List.getElem?_set_self hk⟩
theorem Nxt.trans (h : Nxt μ μ' k) (g : Nxt μ' μ2 k) : Nxt μ μ2 k := by
  obtain ⟨a, b, rfl⟩ := h
  obtain ⟨c, d, rfl⟩ := g
  exact ⟨c, d, List.set_set ..⟩
theorem PotAt.app (h : PotAt μ k) : PotAt (μ ++ E) k := by
  have := h.lt
  obtain ⟨a, b, h⟩ := h
  exact ⟨a, b, by rw [List.getElem?_append_left this]; exact h⟩
theorem Nxt.app (hk : k < μ.length) (h : Nxt (μ ++ E) μ' k) : ∃ μ1, μ' = μ1 ++ E ∧ Nxt μ μ1 k := by
  obtain ⟨a, b, rfl⟩ := h
  exact ⟨μ.set k (potC a b), by rw [List.set_append_left _ _ hk], a, b, rfl⟩
theorem ixl0 {a b : Int} : opIx (.lst [.int a, .int b]) (.int 0) = some (.dat (.int a)) := by
  unfold opIx L2.atI L2.ixN
  simp
theorem ixl1 {a b : Int} : opIx (.lst [.int a, .int b]) (.int 1) = some (.dat (.int b)) := by
  unfold opIx L2.atI L2.ixN
  simp
theorem s_draw (hp : PotAt μ k) (m : Int) (h0 : 0 < m) (h1 : m < 1073741824) : ∃ (d : Nat) (μ' : Sto), (d : Int) < m ∧ Nxt μ μ' k ∧ VM.run T (n + 1) 24 [.cel k, .dat (.int m)] μ = .ok (.dat (.int d)) μ' := by
  have hk := hp.lt
  obtain ⟨a, b, h⟩ := hp
  unfold potC at h
  have tk : ∀ c : Cell, (μ.set k c).take μ.length = μ.set k c := fun c => List.take_of_length_le (by rw [List.length_set]; exact Nat.le_refl _)
  have fin : ∀ (d : Int) (μ' : Sto), 0 ≤ d → d < m → Nxt μ μ' k → VM.run T (n + 1) 24 [.cel k, .dat (.int m)] μ = .ok (.dat (.int d)) μ' → ∃ (d : Nat) (μ' : Sto), (d : Int) < m ∧ Nxt μ μ' k ∧ VM.run T (n + 1) 24 [.cel k, .dat (.int m)] μ = .ok (.dat (.int d)) μ' := fun d μ' e0 e1 nx e => by
    obtain ⟨d', rfl⟩ : ∃ d' : Nat, d = d' := ⟨d.toNat, by omega⟩
    exact ⟨d', μ', e1, nx, e⟩
  rw [run_at (nl := 3) (b := P__law_draw) (by rfl)] at fin ⊢
  unfold P__law_draw at fin ⊢
  by_cases ha : 0 < a
  · refine fin (a % m) (μ.set k (potC (a / m) b)) (Int.emod_nonneg _ (by omega)) (Int.emod_lt_of_pos _ h0) ⟨_, _, rfl⟩ ?_
    simp [startE, EV.see, h, ixl0, opCmp, VM.opI, ha, bDivmod, h0, h1, gSb, VM.putAt, ixN, VM.callEnd, EV.out, tk, potC]
  · let p : Int := (b * 45742 + 6199) % 2147483587
    have p0 : 0 ≤ p := Int.emod_nonneg _ (by decide)
    have p1 : p < 2147483587 := Int.emod_lt_of_pos _ (by decide)
    refine fin (p * p % 2147483549 / 11 % m) (μ.set k (potC a p)) (Int.emod_nonneg _ (by omega)) (Int.emod_lt_of_pos _ h0) ⟨_, _, rfl⟩ ?_
    have m1 : opBin .Mult (.int b) (.int 45742) = some (.dat (.int (b * 45742))) := by simp [opBin, smallI]
    have a1 : opBin .Add (.int (b * 45742)) (.int 6199) = some (.dat (.int (b * 45742 + 6199))) := rfl
    have d1 : opBin .Mod (.int (b * 45742 + 6199)) (.int 2147483587) = some (.dat (.int p)) := rfl
    have sp : smallI p = true := by simp [smallI]; omega
    have m2 : opBin .Mult (.int p) (.int p) = some (.dat (.int (p * p))) := by simp [opBin, sp]
    have d2 : opBin .Mod (.int (p * p)) (.int 2147483549) = some (.dat (.int (p * p % 2147483549))) := rfl
    have d3 : opBin .FloorDiv (.int (p * p % 2147483549)) (.int 11) = some (.dat (.int (p * p % 2147483549 / 11))) := rfl
    have d4 : opBin .Mod (.int (p * p % 2147483549 / 11)) (.int m) = some (.dat (.int (p * p % 2147483549 / 11 % m))) := if_pos h0
    have bi : ∀ i : Int, bInt [.int i] = some (.dat (.int i)) := fun i => rfl
    have g1 : (μ.set k ⟨true, .lst [.int a, .int p]⟩)[k]? = some ⟨true, .lst [.int a, .int p]⟩ := List.getElem?_set_self hk
    simp [startE, EV.see, h, ixl0, ixl1, opCmp, VM.opI, ha, gSb, VM.putAt, ixN, VM.callEnd, EV.out, tk, potC, bi, m1, a1, d1, m2, d2, d3, d4, g1]
theorem s_pick (hp : PotAt μ k) (xs : List D) (h0 : 0 < xs.length) (h1 : xs.length < 1000) : ∃ (x : D) (μ' : Sto), x ∈ xs ∧ Nxt μ μ' k ∧ VM.run T (n + 2) 25 [.cel k, .dat (.lst xs)] μ = .ok (.dat x) μ' := by
  obtain ⟨d, μ', hd, nx, e⟩ := s_draw (n := n) hp (xs.length : Nat) (by omega) (by omega)
  have hd' : d < xs.length := by omega
  refine ⟨xs[d], μ', List.getElem_mem hd', nx, ?_⟩
  rw [run_at (nl := 2) (b := P__law_pick) (by rfl)]
  unfold P__law_pick
  have bl : bLen [.lst xs] = some (.dat (.int xs.length)) := rfl
  have ix : opIx (.lst xs) (.int (d : Nat)) = some (.dat xs[d]) := by
    show (atI xs (d : Nat)).map EV.dat = _
    unfold L2.atI L2.ixN
    rw [if_pos (by omega), if_pos (by omega)]
    simp [List.getElem?_eq_getElem hd']
  have tk : μ'.take μ.length = μ' := List.take_of_length_le (by rw [nx.len]; exact Nat.le_refl _)
  simp [startE, bl, e, ix, VM.callEnd, EV.out, tk]
end
end K12
set_option maxHeartbeats 0
namespace K12
open VM Law
open L2 (atI ixN)
def leafL : List D := [.str "X", .str "Y", .str "Z12", .str "X", .int 0, .int (-3), .int 1000, .tup [.str "a", .tup []], .tup [.str "H", .tup []]]
def restL : List D := [.str "*S", .str "*T", .str "*S9"]
def headL : List D := [.str "f", .str "g", .str "p1", .str "H", .str "K"]
theorem leaf_mem {x : D} (h : x ∈ leafL) : ∃ t : Tm, x = t.d ∧ okT t = true ∧ isR t = false ∧ dep t ≤ 1 ∧ sz t ≤ 1 := by
  simp only [leafL, List.mem_cons, List.not_mem_nil, or_false] at h
  rcases h with rfl | rfl | rfl | rfl | rfl | rfl | rfl | rfl | rfl
  · exact ⟨.var 0, by simp [Tm.d, vS], rfl, rfl, by simp [dep], by simp [sz]⟩
  · exact ⟨.var 1, by simp [Tm.d, vS], rfl, rfl, by simp [dep], by simp [sz]⟩
  · exact ⟨.var 2, by simp [Tm.d, vS], rfl, rfl, by simp [dep], by simp [sz]⟩
  · exact ⟨.var 0, by simp [Tm.d, vS], rfl, rfl, by simp [dep], by simp [sz]⟩
  · exact ⟨.num 0, by simp [Tm.d], rfl, rfl, by simp [dep], by simp [sz]⟩
  · exact ⟨.num (-3), by simp [Tm.d], rfl, rfl, by simp [dep], by simp [sz]⟩
  · exact ⟨.num 1000, by simp [Tm.d], rfl, rfl, by simp [dep], by simp [sz]⟩
  · exact ⟨.app 0 [], by simp [Tm.d, ds, hS], rfl, rfl, by simp [dep, deps], by simp [sz, szs]⟩
  · exact ⟨.app 4 [], by simp [Tm.d, ds, hS], rfl, rfl, by simp [dep, deps], by simp [sz, szs]⟩
theorem rest_mem {x : D} (h : x ∈ restL) : ∃ j : Fin 3, x = (Tm.rst j).d := by
  simp only [restL, List.mem_cons, List.not_mem_nil, or_false] at h
  rcases h with rfl | rfl | rfl
  · exact ⟨0, by simp [Tm.d, rS]⟩
  · exact ⟨1, by simp [Tm.d, rS]⟩
  · exact ⟨2, by simp [Tm.d, rS]⟩
theorem head_mem {x : D} (h : x ∈ headL) : ∃ j : Fin 6, x = .str (hS j) := by
  simp only [headL, List.mem_cons, List.not_mem_nil, or_false] at h
  rcases h with rfl | rfl | rfl | rfl | rfl
  · exact ⟨1, by simp [hS]⟩
  · exact ⟨2, by simp [hS]⟩
  · exact ⟨3, by simp [hS]⟩
  · exact ⟨4, by simp [hS]⟩
  · exact ⟨5, by simp [hS]⟩
theorem okA_of : ∀ {ts : List Tm}, (∀ t ∈ ts, okT t = true ∧ isR t = false) → okA ts = true ∧ ∀ j, okA (ts ++ [.rst j]) = true
  | [], _ => ⟨rfl, fun j => by simp [okA, okT]⟩
  | t :: ts, h => by
    obtain ⟨h1, h2⟩ := h t List.mem_cons_self
    obtain ⟨i1, i2⟩ := okA_of fun u hu => h u (List.mem_cons_of_mem _ hu)
    refine ⟨by simp [okA, h1, h2, i1], fun j => ?_⟩
    simp only [List.cons_append, okA, h1, h2, i2 j, Bool.not_false, Bool.or_true, Bool.and_true]
theorem szs_le {S : Nat} : ∀ {ts : List Tm}, (∀ t ∈ ts, sz t ≤ S) → szs ts ≤ ts.length * S
  | [], _ => by simp [szs]
  | t :: ts, h => by
    have h1 := h t List.mem_cons_self
    have h2 := szs_le fun u hu => h u (List.mem_cons_of_mem _ hu)
    simp only [szs, List.length_cons]
    rw [Nat.add_mul]
    omega
theorem deps_le {S : Nat} : ∀ {ts : List Tm}, (∀ t ∈ ts, dep t ≤ S) → deps ts ≤ S
  | [], _ => by simp [deps]
  | t :: ts, h => by
    have h1 := h t List.mem_cons_self
    have h2 := deps_le fun u hu => h u (List.mem_cons_of_mem _ hu)
    simp only [deps]
    omega
theorem szs_app (a b : List Tm) : szs (a ++ b) = szs a + szs b := by
  induction a with
  | nil => simp [szs]
  | cons t a ih => simp only [List.cons_append, szs, ih]; omega
theorem deps_app (a b : List Tm) : deps (a ++ b) = max (deps a) (deps b) := by
  induction a with
  | nil => simp [deps]
  | cons t a ih => simp only [List.cons_append, deps, ih]; omega
theorem ds_app (a b : List Tm) : ds (a ++ b) = ds a ++ ds b := by rw [ds_map, ds_map, ds_map, List.map_append]
section
variable {n k : Nat} {μ μ' μ2 E : Sto}
/-- a comprehension that draws -/
theorem lc_st {step : D → Sto → Res (Option D)} {P : Tm → Prop} {L : Nat} (hs : ∀ (d : D) (μ : Sto), PotAt μ k → μ.length = L → ∃ (t : Tm) (μ' : Sto), step d μ = .ok (some t.d) μ' ∧ Nxt μ μ' k ∧ P t) (s : List D) (hl : s.length ≤ LIM) : ∀ (m i : Nat) (μ : Sto), PotAt μ k → μ.length = L → i ≤ s.length → s.length < i + m →
    ∃ (ts : List Tm) (μ' : Sto), lcLoop (.vals s) step m i μ = .ok (ds ts) μ' ∧ Nxt μ μ' k ∧ ts.length = s.length - i ∧ ∀ t ∈ ts, P t
  | 0, i, μ, hp, hL, h1, h2 => by omega
  | m + 1, i, μ, hp, hL, h1, h2 => by
    unfold lcLoop
    simp only [src_vals]
    cases e : s[i]? with
    | none =>
      have : s.length ≤ i := List.getElem?_eq_none_iff.mp e
      exact ⟨[], μ, rfl, .refl hp, by simp; omega, fun t ht => by simp at ht⟩
    | some d =>
      have hi : i < s.length := (List.getElem?_eq_some_iff.mp e).1
      obtain ⟨t, μ1, e1, n1, p1⟩ := hs d μ hp hL
      obtain ⟨ts, μ2, e2, n2, l2, p2⟩ := lc_st hs s hl m (i + 1) μ1 (n1.pot hp.lt) (by rw [n1.len]; exact hL) (by omega) (by omega)
      refine ⟨t :: ts, μ2, ?_, n1.trans n2, by rw [List.length_cons]; omega, fun u hu => (List.mem_cons.mp hu).elim (fun h => h ▸ p1) (p2 u)⟩
      simp only
      rw [if_pos (by omega), e1, Res.bind_ok, e2, Res.bind_ok]; rfl
def Sd : Nat → Nat
  | 0 => 1
  | d + 1 => 2 + 3 * Sd d
theorem rng1 (m : Nat) (h : m ≤ 1000) : ∃ s, rangeOf [.dat (.int (m : Nat))] = some (.vals s) ∧ s.length = m := by
  have hc : -1000000 ≤ (m : Int) ∧ (m : Int) ≤ 1000000 := by omega
  exact ⟨_, if_pos hc, by simp⟩
theorem s_term : ∀ (deep : Nat) (n : Nat) (μ : Sto), PotAt μ k → ∃ (t : Tm) (μ' : Sto), VM.run T (n + 3 + deep) 26 [.cel k, .dat (.int (deep : Nat))] μ = .ok (.dat t.d) μ' ∧ Nxt μ μ' k ∧ (okT t = true ∧ isR t = false ∧ dep t ≤ deep + 1 ∧ sz t ≤ Sd deep)
  | deep, n, μ, hp => by
    have hk := hp.lt
    obtain ⟨w, μ1, hw, n1, e1⟩ := s_draw (n := n + 1 + deep) hp 7 (by decide) (by decide)
    have hp1 := n1.pot hk
    rw [show n + 3 + deep = (n + 2 + deep) + 1 by omega, run_at (nl := 5) (b := P__law_term) (by rfl)]
    rw [show n + 1 + deep + 1 = n + 2 + deep by omega] at e1
    unfold P__law_term
    have q1 : opCmp .Eq (.int (deep : Nat)) (.int 0) = some ((deep : Int) == 0) := by simp [opCmp, opEq_int]
    have q2 : opCmp .Eq (.int (w : Nat)) (.int 0) = some ((w : Int) == 0) := by simp [opCmp, opEq_int]
    have tk : ∀ X : Sto, X.length = μ.length → X.take μ.length = X := fun X h => List.take_of_length_le (by rw [h]; exact Nat.le_refl _)
    by_cases c : deep = 0 ∨ w = 0
    · obtain ⟨x, μ2, hx, n2, e2⟩ := s_pick (n := n + deep) hp1 leafL (by decide) (by decide)
      rw [show n + deep + 2 = n + 2 + deep by omega] at e2
      obtain ⟨t, rfl, o1, o2, o3, o4⟩ := leaf_mem hx
      refine ⟨t, μ2, ?_, n1.trans n2, o1, o2, by omega, ?_⟩
      · unfold leafL at e2
        have l2 := tk μ2 (by rw [n2.len, n1.len])
        by_cases c1 : deep = 0
        · have b1 : ((deep : Int) == 0) = true := by simp [c1]
          simp [startE, e1, q1, b1, eNeg, e2, VM.callEnd, EV.out, l2]
        · have c2 : w = 0 := c.resolve_left c1
          have b1 : ((deep : Int) == 0) = false := by simpa using c1
          have b2 : ((w : Int) == 0) = true := by simp [c2]
          simp [startE, e1, q1, q2, b1, b2, eNeg, e2, VM.callEnd, EV.out, l2]
      · have : 1 ≤ Sd deep := by cases deep <;> simp only [Sd] <;> omega
        omega
    · have hd : deep ≠ 0 := fun h => c (.inl h)
      have hw0 : w ≠ 0 := fun h => c (.inr h)
      have b1 : ((deep : Int) == 0) = false := by simpa using hd
      have b2 : ((w : Int) == 0) = false := by simpa using hw0
      obtain ⟨d', rfl⟩ : ∃ d', deep = d' + 1 := ⟨deep - 1, by omega⟩
      have hk1 : k < μ1.length := hp1.lt
      -- the parts
      obtain ⟨mm, μ2, hmm, n2, e2⟩ := s_draw (n := n + 2 + d') hp1 4 (by decide) (by decide)
      have hp2 := n2.pot hk1
      obtain ⟨s, rg, sl⟩ := rng1 mm (by omega)
      have slm : s.length ≤ LIM := lim1 (by omega)
      have sb : opBin .Sub (.int ((d' + 1 : Nat) : Int)) (.int 1) = some (.dat (.int (d' : Nat))) := by
        show some (EV.dat (.int (((d' + 1 : Nat) : Int) - 1))) = _
        congr 3
        omega
      obtain ⟨ts, μ3, lc, n3, tl, tp⟩ := lc_st (k := k) (L := μ2.length) (P := fun t => okT t = true ∧ isR t = false ∧ dep t ≤ d' + 1 ∧ sz t ≤ Sd d')
        (step := lcStep (VM.run T (n + 2 + (d' + 1))) (.nm 4) bYes (eCall 26 (evs [eV 0, eBin .Sub (eV 1) (eC (.int 1))])) [some (.cel k), some (.dat (.int ((d' + 1 : Nat) : Int))), some (.dat (.int (w : Nat))), none, none]) (fun d μ hp _ => by
          obtain ⟨t, μ', e, nx, pt⟩ := s_term d' n μ hp
          refine ⟨t, μ', ?_, nx, pt⟩
          rw [show n + 3 + d' = n + 2 + (d' + 1) by omega] at e
          simp only [x_step, asg, List.length_cons, List.length_nil]
          simp
          simp at sb
          simp [sb, e]) s slm (s.length + 1) 0 μ2 hp2 rfl (Nat.zero_le _) (by omega)
      have hp3 := n3.pot hp2.lt
      have l3 : μ3.length = μ.length := by rw [n3.len, n2.len, n1.len]
      obtain ⟨o1, o2⟩ := okA_of fun t ht => ⟨(tp t ht).1, (tp t ht).2.1⟩
      have z1 := szs_le fun t ht => (tp t ht).2.2.2
      have z2 := deps_le fun t ht => (tp t ht).2.2.1
      have tl3 : ts.length ≤ 3 := by omega
      have z1' : szs ts ≤ 3 * Sd d' := Nat.le_trans z1 (Nat.mul_le_mul_right _ tl3)
      -- the end: a head, the tuple
      have fin : ∀ (ts' : List Tm) (μ5 : Sto), Nxt μ μ5 k → okA ts' = true → szs ts' ≤ 3 * Sd d' + 1 → deps ts' ≤ d' + 1 → ∃ (t : Tm) (μ6 : Sto), sRet (eTup (evs [eCall 25 (evs [eV 0, eLst (evs [eC (.str "f"), eC (.str "g"), eC (.str "p1"), eC (.str "H"), eC (.str "K")])]), eCb bTuple (evs [eV 3])])) (VM.run T (n + 2 + (d' + 1))) [some (.cel k), some (.dat (.int ((d' + 1 : Nat) : Int))), some (.dat (.int (w : Nat))), some (.cel μ3.length), none] (μ5 ++ [⟨true, .lst (ds ts')⟩]) = .ok (.rt (.dat t.d)) (μ6 ++ [⟨true, .lst (ds ts')⟩]) ∧
          Nxt μ μ6 k ∧ okT t = true ∧ isR t = false ∧ dep t ≤ d' + 1 + 1 ∧ sz t ≤ Sd (d' + 1) := fun ts' μ5 n5 q1 q2 q3 => by
        have hp5 := n5.pot hk
        obtain ⟨x, X, hx, nx, e⟩ := s_pick (n := n + (d' + 1)) (hp5.app (E := [⟨true, .lst (ds ts')⟩])) headL (by decide) (by decide)
        obtain ⟨μ6, rfl, n6⟩ := nx.app hp5.lt
        obtain ⟨h, rfl⟩ := head_mem hx
        have l6 : μ6.length = μ3.length := by rw [n6.len, n5.len, l3]
        have g6 : (μ6 ++ [⟨true, .lst (ds ts')⟩])[μ3.length]? = some ⟨true, .lst (ds ts')⟩ := by rw [← l6]; exact get_a0
        refine ⟨.app h ts', μ6, ?_, n5.trans n6, by simp only [okT]; exact q1, rfl, by simp only [dep]; omega, by simp only [sz, Sd]; omega⟩
        unfold headL at e
        rw [show n + (d' + 1) + 2 = n + 2 + (d' + 1) by omega] at e
        have bt : bTuple [.lst (ds ts')] = some (.dat (.tup (ds ts'))) := rfl
        simp [e, EV.see, g6, bt, Tm.d]
      obtain ⟨r, X4, hr, n4x, e4⟩ := s_draw (n := n + 1 + (d' + 1)) (hp3.app (E := [⟨true, .lst (ds ts)⟩])) 3 (by decide) (by decide)
      rw [show n + 1 + (d' + 1) + 1 = n + 2 + (d' + 1) by omega] at e4
      obtain ⟨μ4, rfl, n4⟩ := n4x.app hp3.lt
      have n04 : Nxt μ μ4 k := ((n1.trans n2).trans n3).trans n4
      have hp4 := n4.pot hp3.lt
      have q4 : opCmp .Eq (.int (r : Nat)) (.int 0) = some ((r : Int) == 0) := by simp [opCmp, opEq_int]
      have done : ∀ (ts' : List Tm) (μ5 : Sto), Nxt μ μ5 k → okA ts' = true → szs ts' ≤ 3 * Sd d' + 1 → deps ts' ≤ d' + 1 → sIf (bCmp (opCmp .Eq) (eCall 24 (evs [eV 0, eC (.int 3)])) (eC (.int 0))) (sDrop (eCM aAppend (eV 3) (evs [eCall 25 (evs [eV 0, eLst (evs [eC (.str "*S"), eC (.str "*T"), eC (.str "*S9")])])]))) (sPass) (VM.run T (n + 2 + (d' + 1))) [some (.cel k), some (.dat (.int ((d' + 1 : Nat) : Int))), some (.dat (.int (w : Nat))), some (.cel μ3.length), none] (μ3 ++ [⟨true, .lst (ds ts)⟩]) =
            .ok (.nx [some (.cel k), some (.dat (.int ((d' + 1 : Nat) : Int))), some (.dat (.int (w : Nat))), some (.cel μ3.length), none]) (μ5 ++ [⟨true, .lst (ds ts')⟩]) →
          ∃ (t : Tm) (μ' : Sto), VM.callEnd μ.length (sSeq (sSet 2 (eCall 24 (evs [eV 0, eC (.int 7)]))) (sSeq (sIf (bOr (bCmp (opCmp .Eq) (eV 1) (eC (.int 0))) (bCmp (opCmp .Eq) (eV 2) (eC (.int 0)))) (sRet (eCall 25 (evs [eV 0, eLst (evs [eC (.str "X"), eC (.str "Y"), eC (.str "Z12"), eC (.str "X"), eC (.int 0), eNeg (eC (.int 3)), eC (.int 1000), eTup (evs [eC (.str "a"), eTup (evs [])]), eTup (evs [eC (.str "H"), eTup (evs [])])])]))) (sPass)) (sSeq (sSet 3 (eLc (iRange (evs [eCall 24 (evs [eV 0, eC (.int 4)])])) (.nm 4) (bYes) (eCall 26 (evs [eV 0, eBin .Sub (eV 1) (eC (.int 1))])) [4])) (sSeq (sIf (bCmp (opCmp .Eq) (eCall 24 (evs [eV 0, eC (.int 3)])) (eC (.int 0))) (sDrop (eCM aAppend (eV 3) (evs [eCall 25 (evs [eV 0, eLst (evs [eC (.str "*S"), eC (.str "*T"), eC (.str "*S9")])])]))) (sPass)) (sRet (eTup (evs [eCall 25 (evs [eV 0, eLst (evs [eC (.str "f"), eC (.str "g"), eC (.str "p1"), eC (.str "H"), eC (.str "K")])]), eCb bTuple (evs [eV 3])])))))) (VM.run T (n + 2 + (d' + 1))) (startE 5 [.cel k, .dat (.int ((d' + 1 : Nat) : Int))]) μ) = .ok (.dat t.d) μ' ∧
            Nxt μ μ' k ∧ okT t = true ∧ isR t = false ∧ dep t ≤ d' + 1 + 1 ∧ sz t ≤ Sd (d' + 1) := fun ts' μ5 n5 y1 y2 y3 hif => by
        obtain ⟨t, μ6, er, n6, r1, r2, r3, r4⟩ := fin ts' μ5 n5 y1 y2 y3
        refine ⟨t, μ6, ?_, n6, r1, r2, r3, r4⟩
        have eA : sSet 2 (eCall 24 (evs [eV 0, eC (.int 7)])) (VM.run T (n + 2 + (d' + 1))) (startE 5 [.cel k, .dat (.int ((d' + 1 : Nat) : Int))]) μ = .ok (.nx [some (.cel k), some (.dat (.int ((d' + 1 : Nat) : Int))), some (.dat (.int (w : Nat))), none, none]) μ1 := by
          simp [startE, e1]
        have eB : sIf (bOr (bCmp (opCmp .Eq) (eV 1) (eC (.int 0))) (bCmp (opCmp .Eq) (eV 2) (eC (.int 0)))) (sRet (eCall 25 (evs [eV 0, eLst (evs [eC (.str "X"), eC (.str "Y"), eC (.str "Z12"), eC (.str "X"), eC (.int 0), eNeg (eC (.int 3)), eC (.int 1000), eTup (evs [eC (.str "a"), eTup (evs [])]), eTup (evs [eC (.str "H"), eTup (evs [])])])]))) (sPass) (VM.run T (n + 2 + (d' + 1))) [some (.cel k), some (.dat (.int ((d' + 1 : Nat) : Int))), some (.dat (.int (w : Nat))), none, none] μ1 = .ok (.nx [some (.cel k), some (.dat (.int ((d' + 1 : Nat) : Int))), some (.dat (.int (w : Nat))), none, none]) μ1 := by
          rw [b1] at q1
          rw [b2] at q2
          generalize ((d' + 1 : Nat) : Int) = dd at q1 ⊢
          simp [q1, q2]
        have eC' : sSet 3 (eLc (iRange (evs [eCall 24 (evs [eV 0, eC (.int 4)])])) (.nm 4) (bYes) (eCall 26 (evs [eV 0, eBin .Sub (eV 1) (eC (.int 1))])) [4]) (VM.run T (n + 2 + (d' + 1))) [some (.cel k), some (.dat (.int ((d' + 1 : Nat) : Int))), some (.dat (.int (w : Nat))), none, none] μ1 = .ok (.nx [some (.cel k), some (.dat (.int ((d' + 1 : Nat) : Int))), some (.dat (.int (w : Nat))), some (.cel μ3.length), none]) (μ3 ++ [⟨true, .lst (ds ts)⟩]) := by
          have lm : (ds ts).length ≤ LIM := by rw [ds_len]; exact lim1 (by omega)
          rw [show n + 2 + d' + 1 = n + 2 + (d' + 1) by omega] at e2
          generalize ((d' + 1 : Nat) : Int) = dd at lc ⊢
          simp [e2, rg, wipeE, lc, lm]
        rw [xs_seq, eA]
        simp only
        rw [xs_seq, eB]
        simp only
        rw [xs_seq, eC']
        simp only
        rw [xs_seq, hif]
        simp only
        rw [er]
        have l6 : μ.length = μ6.length := n6.len.symm
        simp [VM.callEnd, EV.out, l6]
      by_cases cr : r = 0
      · have b3 : ((r : Int) == 0) = true := by simp [cr]
        obtain ⟨x, X5, hx, n5x, e5⟩ := s_pick (n := n + (d' + 1)) (hp4.app (E := [⟨true, .lst (ds ts)⟩])) restL (by decide) (by decide)
        rw [show n + (d' + 1) + 2 = n + 2 + (d' + 1) by omega] at e5
        obtain ⟨μ5, rfl, n5⟩ := n5x.app hp4.lt
        obtain ⟨j, rfl⟩ := rest_mem hx
        unfold restL at e5
        have l5 : μ5.length = μ3.length := by rw [n5.len, n4.len]
        refine done (ts ++ [.rst j]) μ5 (n04.trans n5) (o2 j) ?_ ?_ ?_
        · rw [szs_app]; simp only [szs, sz]; omega
        · rw [deps_app]; simp only [deps, dep]; omega
        · have g5 : (μ5 ++ [(⟨true, .lst (ds ts)⟩ : Cell)])[μ3.length]? = some ⟨true, .lst (ds ts)⟩ := by rw [← l5]; exact get_a0
          have g4 : (μ4 ++ [(⟨true, .lst (ds ts)⟩ : Cell)])[μ3.length]? = some ⟨true, .lst (ds ts)⟩ := by rw [show μ3.length = μ4.length from n4.len.symm]; exact get_a0
          have s5 : (μ5 ++ [(⟨true, .lst (ds ts)⟩ : Cell)]).set μ3.length ⟨true, .lst (ds ts ++ [(Tm.rst j).d])⟩ = μ5 ++ [⟨true, .lst (ds ts ++ [(Tm.rst j).d])⟩] := by rw [← l5]; exact set_a0
          have lm : (ds ts).length < LIM := by rw [ds_len]; exact lim2 (by omega)
          have dd : ds (ts ++ [.rst j]) = ds ts ++ [(Tm.rst j).d] := by rw [ds_app]; rfl
          rw [b3] at q4
          rw [dd]
          generalize ((d' + 1 : Nat) : Int) = dd at e4 e5 ⊢
          simp [e4, q4, e5, EV.see, aAppend_c lm, g4, g5, s5]
      · have b3 : ((r : Int) == 0) = false := by simpa using cr
        rw [b3] at q4
        refine done ts μ4 n04 o1 (by omega) z2 ?_
        generalize ((d' + 1 : Nat) : Int) = dd at e4 ⊢
        simp [e4, q4]
end
end K12
set_option maxHeartbeats 0
namespace K12
open VM Law
open L2 (atI ixN)
theorem aInsert_c {l : List D} {p : Nat} {d : D} (h1 : p < LIM) (h2 : l.length < LIM) : aInsert l [.int (p : Nat), d] = some (.non, l.take p ++ [d] ++ l.drop p) := by
  have c : (0 : Int) ≤ (p : Nat) ∧ ((p : Nat) : Int) < (LIM : Nat) ∧ l.length < LIM := ⟨Int.natCast_nonneg _, Int.ofNat_lt.mpr h1, h2⟩
  simp only [aInsert]
  rw [if_pos c, Int.toNat_natCast]
def Ext (μ X : Sto) (k : Nat) : Prop := ∃ μc E : Sto, X = μc ++ E ∧ Nxt μ μc k
section
variable {n k : Nat} {μ X Y E : Sto}
theorem Ext.refl (h : PotAt μ k) : Ext μ μ k := ⟨μ, [], by simp, .refl h⟩
theorem Ext.nxt (hk : k < μ.length) (h : Ext μ X k) (g : Nxt X Y k) : Ext μ Y k := by
  obtain ⟨μc, E, rfl, n1⟩ := h
  obtain ⟨μ2, rfl, n2⟩ := g.app (by rw [n1.len]; exact hk)
  exact ⟨μ2, E, rfl, n1.trans n2⟩
theorem Ext.push (h : Ext μ X k) : Ext μ (X ++ E) k := by
  obtain ⟨μc, E', rfl, n1⟩ := h
  exact ⟨μc, E' ++ E, by simp, n1⟩
theorem Ext.fin (h : Ext μ X k) : Nxt μ (X.take μ.length) k := by
  obtain ⟨μc, E, rfl, n1⟩ := h
  rw [← n1.len]
  simpa using n1
theorem ins_eq {F : Fns} {act : Act} {X2 X3 : Sto} {L L' : List D} {m p : Int} {td : D} (o2 o4 : Option SV) (hl : X3.length = X2.length) (bl : bLen [.lst L] = some (.dat (.int m))) (e3 : F 24 [.cel k, .dat (.int (m + 1))] (X2 ++ [⟨true, .lst L⟩]) = .ok (.dat (.int p)) (X3 ++ [⟨true, .lst L⟩])) (ai : act L [.int p, td] = some (.non, L')) :
    sDrop (eCM act (eV 3) (evs [eCall 24 (evs [eV 0, eBin .Add (eCb bLen (evs [eV 3])) (eC (.int 1))]), eV 1])) F [some (.cel k), some (.dat td), o2, some (.cel X2.length), o4] (X2 ++ [⟨true, .lst L⟩]) = .ok (.nx [some (.cel k), some (.dat td), o2, some (.cel X2.length), o4]) (X3 ++ [⟨true, .lst L'⟩]) := by
  have g2 : (X2 ++ [(⟨true, .lst L⟩ : Cell)])[X2.length]? = some ⟨true, .lst L⟩ := get_a0
  have g3 : (X3 ++ [(⟨true, .lst L⟩ : Cell)])[X2.length]? = some ⟨true, .lst L⟩ := by rw [← hl]; exact get_a0
  have s3 : (X3 ++ [(⟨true, .lst L⟩ : Cell)]).set X2.length ⟨true, .lst L'⟩ = X3 ++ [⟨true, .lst L'⟩] := by rw [← hl]; exact set_a0
  simp [EV.see, g2, bl, addI, e3, g3, ai, s3]
def greatB : SS := sSeq (sSet 3 (eLc (iRange (evs [eCall 24 (evs [eV 0, eC (.int 9)])])) (.nm 4) (bYes) (eCall 26 (evs [eV 0, eC (.int 0)])) [4])) (sSeq (sDrop (eCM aInsert (eV 3) (evs [eCall 24 (evs [eV 0, eBin .Add (eCb bLen (evs [eV 3])) (eC (.int 1))]), eV 1]))) (sSeq (sIf (bCmp (opCmp .Eq) (eCall 24 (evs [eV 0, eC (.int 4)])) (eC (.int 0))) (sDrop (eCM aAppend (eV 3) (evs [eCall 25 (evs [eV 0, eLst (evs [eC (.str "*S"), eC (.str "*T"), eC (.str "*S9")])])]))) (sPass)) (sSet 1 (eTup (evs [eCall 25 (evs [eV 0, eLst (evs [eC (.str "f"), eC (.str "g"), eC (.str "p1"), eC (.str "H"), eC (.str "K")])]), eCb bTuple (evs [eV 3])])))))
theorem great_step (o2 o3 o4 : Option SV) (t : Tm) (ht : okT t = true) (hr : isR t = false) (hp : PotAt X k) : ∃ (t' : Tm) (q3 q4 : Option SV) (Y : Sto) (c : Cell),
    greatB (VM.run T (n + 4)) [some (.cel k), some (.dat t.d), o2, o3, o4] X = .ok (.nx [some (.cel k), some (.dat t'.d), o2, q3, q4]) (Y ++ [c]) ∧ Nxt X Y k ∧ okT t' = true ∧ isR t' = false ∧ dep t' ≤ dep t + 1 ∧ 1 ≤ dep t ∧ sz t' ≤ sz t + 11 := by
  have hk := hp.lt
  have hd1 : 1 ≤ dep t := by cases t <;> simp only [dep] <;> omega
  obtain ⟨mm, X1, hmm, n1, e1⟩ := s_draw (n := n + 3) hp 9 (by decide) (by decide)
  have hp1 := n1.pot hk
  obtain ⟨s, rg, sl⟩ := rng1 mm (by omega)
  obtain ⟨ts, X2, lc, n2, tl, tp⟩ := lc_st (k := k) (L := X1.length) (P := fun t => okT t = true ∧ isR t = false ∧ dep t ≤ 0 + 1 ∧ sz t ≤ Sd 0)
    (step := lcStep (VM.run T (n + 4)) (.nm 4) bYes (eCall 26 (evs [eV 0, eC (.int 0)])) [some (.cel k), some (.dat t.d), o2, o3, none]) (fun d μ hp _ => by
      obtain ⟨t, μ', e, nx, pt⟩ := s_term 0 (n + 1) μ hp
      refine ⟨t, μ', ?_, nx, pt⟩
      rw [show n + 1 + 3 + 0 = n + 4 by omega] at e
      simp only [x_step, asg, List.length_cons, List.length_nil]
      simp at e
      simp [e]) s (lim1 (by omega)) (s.length + 1) 0 X1 hp1 rfl (Nat.zero_le _) (by omega)
  have hp2 := n2.pot hp1.lt
  have lm : (ds ts).length ≤ LIM := by rw [ds_len]; exact lim1 (by omega)
  have eA : sSet 3 (eLc (iRange (evs [eCall 24 (evs [eV 0, eC (.int 9)])])) (.nm 4) (bYes) (eCall 26 (evs [eV 0, eC (.int 0)])) [4]) (VM.run T (n + 4)) [some (.cel k), some (.dat t.d), o2, o3, o4] X = .ok (.nx [some (.cel k), some (.dat t.d), o2, some (.cel X2.length), o4]) (X2 ++ [⟨true, .lst (ds ts)⟩]) := by
    rw [show n + 3 + 1 = n + 4 by omega] at e1
    simp [e1, rg, wipeE, lc, lm]
  -- insert
  obtain ⟨p, X3x, hpp, n3x, e3⟩ := s_draw (n := n + 3) (hp2.app (E := [⟨true, .lst (ds ts)⟩])) ((ts.length : Nat) + 1) (by omega) (by omega)
  rw [show n + 3 + 1 = n + 4 by omega] at e3
  obtain ⟨X3, rfl, n3⟩ := n3x.app hp2.lt
  have hp3 := n3.pot hp2.lt
  obtain ⟨us, us_e⟩ : ∃ us : List Tm, us = ts.take p ++ t :: ts.drop p := ⟨_, rfl⟩
  have hus : ∀ u ∈ us, (okT u = true ∧ isR u = false) ∧ dep u ≤ dep t := fun u hu => by
    rw [us_e] at hu
    rcases List.mem_append.mp hu with hu | hu
    · have := tp u (List.mem_of_mem_take hu); exact ⟨⟨this.1, this.2.1⟩, by omega⟩
    · rcases List.mem_cons.mp hu with rfl | hu
      · exact ⟨⟨ht, hr⟩, Nat.le_refl _⟩
      · have := tp u (List.mem_of_mem_drop hu); exact ⟨⟨this.1, this.2.1⟩, by omega⟩
  have ul : us.length ≤ 10 := by
    simp only [us_e, List.length_append, List.length_cons, List.length_take, List.length_drop]; omega
  have du : ds us = (ds ts).take p ++ [t.d] ++ (ds ts).drop p := by
    rw [us_e, ds_map, ds_map]
    simp
  have zt : szs ts ≤ 8 := by
    have := szs_le fun t ht => (tp t ht).2.2.2
    simp only [Sd] at this
    omega
  have zu : szs us ≤ sz t + 8 := by
    have h1 : szs us = szs (ts.take p) + (sz t + szs (ts.drop p)) := by simp only [us_e, szs_app, szs]
    have h2 : szs ts = szs (ts.take p) + szs (ts.drop p) := by rw [← szs_app, List.take_append_drop]
    omega
  obtain ⟨o1, o2'⟩ := okA_of fun u hu => (hus u hu).1
  have zd := deps_le fun u hu => (hus u hu).2
  have eB : sDrop (eCM aInsert (eV 3) (evs [eCall 24 (evs [eV 0, eBin .Add (eCb bLen (evs [eV 3])) (eC (.int 1))]), eV 1])) (VM.run T (n + 4)) [some (.cel k), some (.dat t.d), o2, some (.cel X2.length), o4] (X2 ++ [⟨true, .lst (ds ts)⟩]) = .ok (.nx [some (.cel k), some (.dat t.d), o2, some (.cel X2.length), o4]) (X3 ++ [⟨true, .lst (ds us)⟩]) := by
    have bl : bLen [.lst (ds ts)] = some (.dat (.int (ts.length : Nat))) := by
      show some (EV.dat (.int ((ds ts).length : Nat))) = _
      rw [ds_len]
    have ai : aInsert (ds ts) [.int (p : Nat), t.d] = some (.non, ds us) := by
      rw [du]
      exact aInsert_c (lim2 (by omega)) (by rw [ds_len]; exact lim2 (by omega))
    exact ins_eq o2 o4 n3.len bl e3 ai
  -- the rest
  obtain ⟨r, X4x, hrr, n4x, e4⟩ := s_draw (n := n + 3) (hp3.app (E := [⟨true, .lst (ds us)⟩])) 4 (by decide) (by decide)
  rw [show n + 3 + 1 = n + 4 by omega] at e4
  obtain ⟨X4, rfl, n4⟩ := n4x.app hp3.lt
  have hp4 := n4.pot hp3.lt
  have q4 : opCmp .Eq (.int (r : Nat)) (.int 0) = some ((r : Int) == 0) := by simp [opCmp, opEq_int]
  have eC' : ∃ (ts' : List Tm) (X5 : Sto), sIf (bCmp (opCmp .Eq) (eCall 24 (evs [eV 0, eC (.int 4)])) (eC (.int 0))) (sDrop (eCM aAppend (eV 3) (evs [eCall 25 (evs [eV 0, eLst (evs [eC (.str "*S"), eC (.str "*T"), eC (.str "*S9")])])]))) (sPass) (VM.run T (n + 4)) [some (.cel k), some (.dat t.d), o2, some (.cel X2.length), o4] (X3 ++ [⟨true, .lst (ds us)⟩]) = .ok (.nx [some (.cel k), some (.dat t.d), o2, some (.cel X2.length), o4]) (X5 ++ [⟨true, .lst (ds ts')⟩]) ∧
      Nxt X4 X5 k ∧ okA ts' = true ∧ szs ts' ≤ sz t + 9 ∧ deps ts' ≤ dep t := by
    by_cases cr : r = 0
    · have b3 : ((r : Int) == 0) = true := by simp [cr]
      obtain ⟨x, X5x, hx, n5x, e5⟩ := s_pick (n := n + 2) (hp4.app (E := [⟨true, .lst (ds us)⟩])) restL (by decide) (by decide)
      rw [show n + 2 + 2 = n + 4 by omega] at e5
      obtain ⟨X5, rfl, n5⟩ := n5x.app hp4.lt
      obtain ⟨j, rfl⟩ := rest_mem hx
      unfold restL at e5
      have l5 : X5.length = X2.length := by rw [n5.len, n4.len, n3.len]
      refine ⟨us ++ [.rst j], X5, ?_, n5, o2' j, ?_, ?_⟩
      · have g5 : (X5 ++ [(⟨true, .lst (ds us)⟩ : Cell)])[X2.length]? = some ⟨true, .lst (ds us)⟩ := by rw [← l5]; exact get_a0
        have g4 : (X4 ++ [(⟨true, .lst (ds us)⟩ : Cell)])[X2.length]? = some ⟨true, .lst (ds us)⟩ := by rw [show X2.length = X4.length by rw [n4.len, n3.len]]; exact get_a0
        have s5 : (X5 ++ [(⟨true, .lst (ds us)⟩ : Cell)]).set X2.length ⟨true, .lst (ds us ++ [(Tm.rst j).d])⟩ = X5 ++ [⟨true, .lst (ds us ++ [(Tm.rst j).d])⟩] := by rw [← l5]; exact set_a0
        have lm : (ds us).length < LIM := by rw [ds_len]; exact lim2 (by omega)
        have dd : ds (us ++ [.rst j]) = ds us ++ [(Tm.rst j).d] := by rw [ds_app]; rfl
        rw [b3] at q4
        rw [dd]
        simp [e4, q4, e5, EV.see, aAppend_c lm, g4, g5, s5]
      · rw [szs_app]; simp only [szs, sz]; omega
      · rw [deps_app]; simp only [deps, dep]; omega
    · have b3 : ((r : Int) == 0) = false := by simpa using cr
      rw [b3] at q4
      exact ⟨us, X4, by simp [e4, q4], .refl hp4, o1, by omega, zd⟩
  obtain ⟨ts', X5, eC1, n5, r1, r2, r3⟩ := eC'
  have hp5 := n5.pot hp4.lt
  obtain ⟨x, X6x, hx, n6x, e6⟩ := s_pick (n := n + 2) (hp5.app (E := [⟨true, .lst (ds ts')⟩])) headL (by decide) (by decide)
  rw [show n + 2 + 2 = n + 4 by omega] at e6
  obtain ⟨X6, rfl, n6⟩ := n6x.app hp5.lt
  obtain ⟨h, rfl⟩ := head_mem hx
  unfold headL at e6
  have l6 : X6.length = X2.length := by rw [n6.len, n5.len, n4.len, n3.len]
  have g6 : (X6 ++ [(⟨true, .lst (ds ts')⟩ : Cell)])[X2.length]? = some ⟨true, .lst (ds ts')⟩ := by rw [← l6]; exact get_a0
  have bt : bTuple [.lst (ds ts')] = some (.dat (.tup (ds ts'))) := rfl
  refine ⟨.app h ts', some (.cel X2.length), o4, X6, ⟨true, .lst (ds ts')⟩, ?_, ((((n1.trans n2).trans n3).trans n4).trans n5).trans n6, by simp only [okT]; exact r1, rfl, by simp only [dep]; omega, hd1, by simp only [sz]; omega⟩
  unfold greatB
  rw [xs_seq, eA]
  simp only
  rw [xs_seq, eB]
  simp only
  rw [xs_seq, eC1]
  simp [e6, EV.see, g6, bt, Tm.d]
theorem great_loop (s : List D) : ∀ (m i : Nat) (t : Tm) (o2 o3 o4 : Option SV) (X : Sto), okT t = true → isR t = false → Ext μ X k → PotAt μ k → i ≤ s.length → s.length < i + m → ∃ (t' : Tm) (q2 q3 q4 : Option SV) (Y : Sto),
    forL (VM.run T (n + 4)) (.vals s) (gNm 2) greatB m i [some (.cel k), some (.dat t.d), o2, o3, o4] X = .ok (.nx [some (.cel k), some (.dat t'.d), q2, q3, q4]) Y ∧ Ext μ Y k ∧ okT t' = true ∧ isR t' = false ∧ dep t' ≤ dep t + (s.length - i) ∧ sz t' ≤ sz t + 11 * (s.length - i)
  | 0, i, t, o2, o3, o4, X, _, _, _, _, h1, h2 => by omega
  | m + 1, i, t, o2, o3, o4, X, ht, hr, hx, hp, h1, h2 => by
    unfold forL
    simp only [src_vals]
    cases e : s[i]? with
    | none =>
      have : s.length ≤ i := List.getElem?_eq_none_iff.mp e
      exact ⟨t, o2, o3, o4, X, rfl, hx, ht, hr, by omega, by omega⟩
    | some d =>
      have hi : i < s.length := (List.getElem?_eq_some_iff.mp e).1
      have hpx : PotAt X k := by
        obtain ⟨μc, E, rfl, n1⟩ := hx
        exact (n1.pot hp.lt).app
      obtain ⟨t', q3, q4, Y, c, e1, n1, r1, r2, r3, _, r4⟩ := great_step (n := n) (some (.dat d)) o3 o4 t ht hr hpx
      obtain ⟨t2, p2, p3, p4, Z, e2, x2, s1, s2, s3, s4⟩ := great_loop s m (i + 1) t' (some (.dat d)) q3 q4 (Y ++ [c]) r1 r2 (hx.nxt hp.lt n1).push hp hi (by omega)
      refine ⟨t2, p2, p3, p4, Z, ?_, x2, s1, s2, by omega, by omega⟩
      simp only [xg_nm, Res.bind_ok, List.set_cons_succ, List.set_cons_zero]
      rw [e1]
      exact e2
theorem s_great (hp : PotAt μ k) : ∃ (t : Tm) (μ' : Sto), VM.run T (n + 6) 27 [.cel k] μ = .ok (.dat t.d) μ' ∧ Nxt μ μ' k ∧ okT t = true ∧ isR t = false ∧ dep t ≤ 20 ∧ sz t ≤ 200 := by
  have hk := hp.lt
  obtain ⟨t, μ1, e1, n1, o1, o2, o3, o4⟩ := s_term 1 (n + 1) μ hp
  have hp1 := n1.pot hk
  obtain ⟨mm, μ2, hmm, n2, e2⟩ := s_draw (n := n + 4) hp1 11 (by decide) (by decide)
  have hp2 := n2.pot hp1.lt
  obtain ⟨s, rg, sl⟩ := rng1 (6 + mm) (by omega)
  obtain ⟨t', q2, q3, q4, Y, e3, x3, r1, r2, r3, r4⟩ := great_loop (n := n + 1) (μ := μ2) s (s.length + 1) 0 t none none none μ2 o1 o2 (.refl hp2) hp2 (Nat.zero_le _) (by omega)
  have f3 := x3.fin
  rw [n2.len, n1.len] at f3
  refine ⟨t', Y.take μ.length, ?_, (n1.trans n2).trans f3, r1, r2, by omega, by simp only [Sd] at o4; omega⟩
  rw [show n + 6 = n + 5 + 1 by omega, run_at (nl := 5) (b := P__law_great) (by rfl)]
  rw [show n + 1 + 3 + 1 = n + 5 by omega] at e1
  rw [show n + 4 + 1 = n + 5 by omega] at e2
  rw [show n + 1 + 4 = n + 5 by omega] at e3
  rw [Int.natCast_add] at rg
  simp at e1 rg
  unfold greatB at e3
  unfold P__law_great
  simp [startE, e1, addI, e2, rg, e3, VM.callEnd, EV.out]
end
end K12
set_option maxHeartbeats 0
namespace K12
open VM Law
open L2 (atI ixN)
section
variable {n k : Nat} {μ : Sto}
theorem s_pot (ns : List Int) (h : ns.length ≤ 63) : ∃ a b : Int, VM.run T (n + 1) 23 [.dat (.scr ns), .dat (.int 0)] μ = .ok (.new (.lst [.int a, .int b])) μ := by
  rw [run_at (nl := 3) (b := P__law_pot) (by rfl)]
  have bl : bLen [.scr ns] = some (.dat (.int ns.length)) := by
    first | rfl | exact if_pos h
  have fin : ∀ x : Int, ∃ a b : Int, VM.callEnd μ.length (sRet (eLst (evs [eCb bMax (evs [eC (.int 0), eBin .Sub (eV 2) (eBin .Pow (eC (.int 10)) (eC (.int 18)))]), eBin .Add (eBin .Mod (eCb bInt (evs [eBin .Add (eBin .Add (eBin .Mult (eBin .Mod (eCb bInt (evs [eV 2])) (eC (.int 2147483549))) (eC (.int 40853))) (eBin .Mult (eC (.int 5099)) (eV 1))) (eC (.int 227))])) (eC (.int 2147483563))) (eC (.int 1))])) (VM.run T n) [some (.dat (.scr ns)), some (.dat (.int 0)), some (.dat (.int x))] μ) = .ok (.new (.lst [.int a, .int b])) μ := fun x => by
    obtain ⟨y, hy⟩ : ∃ y, y = x % 2147483549 := ⟨_, rfl⟩
    have y0 : 0 ≤ y := by rw [hy]; exact Int.emod_nonneg _ (by decide)
    have y1 : y < 2147483549 := by rw [hy]; exact Int.emod_lt_of_pos _ (by decide)
    have bi : ∀ i : Int, bInt [.int i] = some (.dat (.int i)) := fun i => rfl
    have pw : opBin .Pow (.int 10) (.int 18) = some (.dat (.int 1000000000000000000)) := by simp [opBin]
    have sb : opBin .Sub (.int x) (.int 1000000000000000000) = some (.dat (.int (x - 1000000000000000000))) := rfl
    obtain ⟨a, mx⟩ : ∃ a : Int, bMax [.int 0, .int (x - 1000000000000000000)] = some (.dat (.int a)) := ⟨_, rfl⟩
    have d1 : opBin .Mod (.int x) (.int 2147483549) = some (.dat (.int y)) := by rw [hy]; rfl
    have m1 : opBin .Mult (.int y) (.int 40853) = some (.dat (.int (y * 40853))) := by
      have sp : smallI y = true := by simp [smallI]; omega
      have sq : smallI 40853 = true := by decide
      simp [opBin, sp, sq]
    have m2 : opBin .Mult (.int 5099) (.int 0) = some (.dat (.int 0)) := by rfl
    obtain ⟨z, hz⟩ : ∃ z, z = (y * 40853 + 0 + 227) % 2147483563 := ⟨_, rfl⟩
    have d2 : opBin .Mod (.int (y * 40853 + 0 + 227)) (.int 2147483563) = some (.dat (.int z)) := by rw [hz]; rfl
    refine ⟨a, z + 1, ?_⟩
    generalize VM.run T n = F
    simp only [Int.add_zero] at d2
    simp [bi, pw, sb, mx, d1, m1, m2, addI, d2, VM.callEnd, EV.out]
  unfold P__law_pot
  have e0 : ∃ x : Int, sSet 2 (eIf (bCmp (opCmp .Lt) (eV 1) (eCb bLen (evs [eV 0]))) (eCb bAbs (evs [eIx (eV 0) (eV 1)])) (eBin .Add (eBin .Mult (eC (.int 283)) (eV 1)) (eC (.int 197)))) (VM.run T n) (startE 3 [.dat (.scr ns), .dat (.int 0)]) μ = .ok (.nx [some (.dat (.scr ns)), some (.dat (.int 0)), some (.dat (.int x))]) μ := by
    have m2 : opBin .Mult (.int 283) (.int 0) = some (.dat (.int 0)) := by rfl
    cases ns with
    | nil =>
      have lt : opCmp .Lt (.int 0) (.int 0) = some false := by rfl
      simp at bl
      exact ⟨197, by simp [startE, bl, lt, m2, addI]⟩
    | cons i ns =>
      have lt : opCmp .Lt (.int 0) (.int ((i :: ns).length : Nat)) = some true := by simp [opCmp, VM.opI]
      have ix : opIx (.scr (i :: ns)) (.int 0) = some (.dat (.int i)) := by
        unfold opIx L2.atI L2.ixN
        simp
      have ab : bAbs [.int i] = some (.dat (.int (if i < 0 then -i else i))) := rfl
      generalize ((i :: ns).length : Nat) = len at bl lt
      exact ⟨_, by simp [startE, bl, lt, ix, ab]; rfl⟩
  obtain ⟨x, e0⟩ := e0
  obtain ⟨a, b, e⟩ := fin x
  exact ⟨a, b, by rw [xs_seq, e0]; exact e⟩
end
end K12
set_option maxHeartbeats 0
namespace K12
open VM Law
open L2 (atI ixN)
/-! plain: paths, parts -/
mutual
theorem pre_sub : ∀ (p : List Nat) (t : Tm) (q : List Nat) (u : Tm), (q, u) ∈ pre p t → ∃ r, q = p ++ r ∧ sub t r = some u
  | p, .num i, q, u, h => by
    simp only [pre, List.mem_singleton, Prod.mk.injEq] at h
    exact ⟨[], by simp [h.1], by rw [h.2]; simp [sub]⟩
  | p, .var i, q, u, h => by
    simp only [pre, List.mem_singleton, Prod.mk.injEq] at h
    exact ⟨[], by simp [h.1], by rw [h.2]; simp [sub]⟩
  | p, .rst i, q, u, h => by
    simp only [pre, List.mem_singleton, Prod.mk.injEq] at h
    exact ⟨[], by simp [h.1], by rw [h.2]; simp [sub]⟩
  | p, .app hh as, q, u, h => by
    simp only [pre, List.mem_cons, Prod.mk.injEq] at h
    rcases h with h | h
    · exact ⟨[], by simp [h.1], by rw [h.2]; simp [sub]⟩
    · obtain ⟨j, r, v, e1, e2, e3⟩ := pres_sub p 0 as q u h
      refine ⟨j :: r, by rw [e1]; simp, ?_⟩
      simp only [sub, e2]
      exact e3
theorem pres_sub : ∀ (p : List Nat) (i : Nat) (ts : List Tm) (q : List Nat) (u : Tm), (q, u) ∈ pres p i ts → ∃ (j : Nat) (r : List Nat) (v : Tm), q = p ++ [i + j] ++ r ∧ ts[j]? = some v ∧ sub v r = some u
  | p, i, [], q, u, h => by simp [pres] at h
  | p, i, t :: ts, q, u, h => by
    simp only [pres, List.mem_append] at h
    rcases h with h | h
    · obtain ⟨r, e1, e2⟩ := pre_sub (p ++ [i]) t q u h
      exact ⟨0, r, t, e1, rfl, e2⟩
    · obtain ⟨j, r, v, e1, e2, e3⟩ := pres_sub p (i + 1) ts q u h
      exact ⟨j + 1, r, v, by rw [e1]; simp; omega, by simpa using e2, e3⟩
end
theorem okA_mem : ∀ {ts : List Tm} {i : Nat} {v : Tm}, okA ts = true → ts[i]? = some v → okT v = true
  | [], i, v, _, h => by simp at h
  | t :: ts, 0, v, h, e => by
    simp only [List.getElem?_cons_zero, Option.some.injEq] at e
    subst e
    simp only [okA, Bool.and_eq_true] at h
    first | exact h.1.1 | exact h.1 | exact h.1.2
  | t :: ts, i + 1, v, h, e => by
    simp only [List.getElem?_cons_succ] at e
    simp only [okA, Bool.and_eq_true] at h
    exact okA_mem h.2 e
theorem deps_get : ∀ {ts : List Tm} {i : Nat} {v : Tm}, ts[i]? = some v → dep v ≤ deps ts ∧ sz v ≤ szs ts
  | [], i, v, h => by simp at h
  | t :: ts, 0, v, e => by
    simp only [List.getElem?_cons_zero, Option.some.injEq] at e
    subst e
    simp only [deps, szs]; omega
  | t :: ts, i + 1, v, e => by
    simp only [List.getElem?_cons_succ] at e
    have := deps_get e
    simp only [deps, szs]; omega
theorem sub_good : ∀ (r : List Nat) (t u : Tm), sub t r = some u → okT t = true → okT u = true ∧ r.length + dep u ≤ dep t ∧ r.length + sz u ≤ sz t
  | [], t, u, h, ho => by
    simp only [sub, Option.some.injEq] at h
    subst h
    exact ⟨ho, by simp, by simp⟩
  | i :: r, t, u, h, ho => by
    obtain ⟨hh, as, v, rfl, e1, e2⟩ := sub_cons h
    simp only [okT] at ho
    obtain ⟨a1, a2, a3⟩ := sub_good r v u e2 (okA_mem ho e1)
    have := deps_get e1
    simp only [dep, sz, List.length_cons]
    exact ⟨a1, by omega, by omega⟩
theorem sub_app : ∀ (p r : List Nat) (t u : Tm), sub t p = some u → sub t (p ++ r) = sub u r
  | [], r, t, u, h => by
    simp only [sub, Option.some.injEq] at h
    subst h; rfl
  | i :: p, r, t, u, h => by
    obtain ⟨hh, as, v, rfl, e1, e2⟩ := sub_cons h
    simp only [List.cons_append, sub, e1]
    exact sub_app p r v u e2
def nrs (l : List (List Nat × Tm)) : List (List Nat) := (l.filter fun q => !isR q.2).map fun q => q.1
theorem nrs_app (a b : List (List Nat × Tm)) : nrs (a ++ b) = nrs a ++ nrs b := by simp [nrs]
mutual
theorem perm_pre : ∀ (p : List Nat) (t : Tm), isR t = false → (allQ p t).Perm (nrs (pre p t))
  | p, .num i, _ => by simp [allQ, pre, nrs, isR]
  | p, .var i, _ => by simp [allQ, pre, nrs, isR]
  | p, .rst i, h => by simp [isR] at h
  | p, .app h as, _ => by
    have := perm_pres p 0 as
    simp only [allQ, pre]
    have e : nrs ((p, Tm.app h as) :: pres p 0 as) = p :: nrs (pres p 0 as) := by simp [nrs, isR]
    rw [e]
    exact this.cons p
theorem perm_pres : ∀ (p : List Nat) (i : Nat) (ts : List Tm), (allQs p i ts).Perm (nrs (pres p i ts))
  | p, i, [] => by simp [allQs, pres, nrs]
  | p, i, t :: ts => by
    have h1 := perm_pres p (i + 1) ts
    simp only [allQs, pres, nrs_app]
    by_cases c : isR t = true
    · have e : nrs (pre (p ++ [i]) t) = [] := by
        cases t <;> simp [isR] at c
        simp [pre, nrs, isR]
      rw [if_pos c, e]
      simpa using h1
    · have c' : isR t = false := by simpa using c
      rw [if_neg c]
      exact (h1.append (perm_pre (p ++ [i]) t c')).trans List.perm_append_comm
end
theorem sortL_eq {a b : List (List Int)} (h : a.Perm b) : sortL a = sortL b := srt_uniq (sortL_srt a) (sortL_srt b) ((sortL_perm a).trans (h.trans (sortL_perm b).symm))
theorem allQ_sub {t : Tm} (hr : isR t = false) {q : List Nat} (h : q ∈ allQ [] t) : ∃ u, sub t q = some u ∧ isR u = false := by
  have h := (perm_pre [] t hr).mem_iff.mp h
  simp only [nrs, List.mem_map, List.mem_filter] at h
  obtain ⟨⟨q', u⟩, ⟨h1, h2⟩, rfl⟩ := h
  obtain ⟨r, e1, e2⟩ := pre_sub [] t q' u h1
  simp only [List.nil_append] at e1
  subst e1
  exact ⟨u, e2, by simpa using h2⟩
end K12
set_option maxHeartbeats 0
namespace K12
open VM Law PySem
open L2 (atI ixN)
/-! what can be shown -/
structure Shw (d : D) (dd ll : Nat) : Prop where
  flat : d.flat = true
  sh : d.rp.showable = true
  dp : d.rp.depth ≤ dd
  ln : d.rp.shown.length + 2 ≤ ll
theorem Shw.ok {d : D} {dd ll : Nat} (h : Shw d dd ll) (h1 : dd ≤ 150) (h2 : ll ≤ LIM) : reprOk d = true := by
  unfold reprOk
  rw [h.flat, h.sh, decide_eq_true (Nat.le_trans h.dp h1), decide_eq_true (Nat.le_trans (Nat.le_trans (Nat.le_add_right _ 2) h.ln) h2)]
  rfl
theorem Shw.mono {d : D} {dd ll dd' ll' : Nat} (h : Shw d dd ll) (h1 : dd ≤ dd') (h2 : ll ≤ ll') : Shw d dd' ll' := ⟨h.flat, h.sh, Nat.le_trans h.dp h1, Nat.le_trans h.ln h2⟩
/-- several -/
structure Shws (ds : List D) (dd ll : Nat) : Prop where
  flat : flats ds = true
  sh : PyData.showableAll (rps ds) = true
  dp : PyData.depthAll (rps ds) ≤ dd
  ln : piled (PyData.shownAll (rps ds)) ≤ ll
theorem shws_nil : Shws [] 0 0 := ⟨rfl, rfl, by simp [rps, PyData.depthAll], by simp [rps, PyData.shownAll, piled]⟩
theorem Shw.cons {d : D} {ds : List D} {dd ll dd' ll' : Nat} (h : Shw d dd ll) (g : Shws ds dd' ll') : Shws (d :: ds) (max dd dd') (ll + ll') := by
  have h1 := h.dp
  have h2 := g.dp
  have h3 := h.ln
  have h4 := g.ln
  refine ⟨by simp only [flats, h.flat, g.flat, Bool.and_self], by simp only [rps, PyData.showableAll, h.sh, g.sh, Bool.and_self], ?_, ?_⟩
  · simp only [rps, PyData.depthAll]; omega
  · simp only [rps, PyData.shownAll, piled_cons]; omega
theorem Shws.mono {ds : List D} {dd ll dd' ll' : Nat} (h : Shws ds dd ll) (h1 : dd ≤ dd') (h2 : ll ≤ ll') : Shws ds dd' ll' := ⟨h.flat, h.sh, Nat.le_trans h.dp h1, Nat.le_trans h.ln h2⟩
theorem shws_all {dd l : Nat} : ∀ {ds : List D}, (∀ d ∈ ds, Shw d dd l) → Shws ds dd (l * ds.length)
  | [], _ => shws_nil.mono (by omega) (by omega)
  | d :: ds, h => by
    refine ((h d List.mem_cons_self).cons (shws_all fun e he => h e (List.mem_cons_of_mem _ he))).mono (by omega) ?_
    rw [List.length_cons, Nat.mul_succ]; omega
theorem tup_len (ts : List Str) : (tupleText ts).length ≤ piled ts + 3 := by
  unfold tupleText
  rw [strLen_append, strLen_append]
  have e1 : ((("(" : String) : Str)).length = 1 := rfl
  have e3 : (((if ts.length == 1 then ",)" else ")" : String) : Str)).length ≤ 2 := by split <;> decide
  rw [e1]
  cases ts with
  | nil =>
    have : (Str.join ", " []).length = 0 := rfl
    omega
  | cons t ts =>
    have := join_length_add (t :: ts) (by simp)
    omega
theorem from_len : ∀ (ts : List Str) (k : Nat) (acc : Str), (textFrom k acc ts).length ≤ acc.length + piled ts
  | [], k, acc => by simp [textFrom]
  | t :: ts, k, acc => by
    have ih := from_len ts (k + 1) (acc ++ (if k > 0 then ", " else "" : String) ++ t)
    have e : (acc ++ (if k > 0 then ", " else "" : String) ++ t).length ≤ acc.length + 2 + t.length := by
      rw [strLen_append, strLen_append]
      have e2 : ((", " : String) : Str).length = 2 := rfl
      have e3 : (("" : String) : Str).length = 0 := rfl
      by_cases c : k > 0
      · rw [if_pos c, e2]; omega
      · rw [if_neg c, e3]; omega
    rw [piled_cons]
    unfold textFrom
    omega
theorem lst_len (ts : List Str) : (listText ts).length ≤ piled ts + 2 := by
  unfold listText
  rw [strLen_append]
  have := from_len ts 0 "["
  have e1 : ((("[" : String) : Str)).length = 1 := rfl
  have e2 : ((("]" : String) : Str)).length = 1 := rfl
  omega
theorem Shws.tup {ds : List D} {dd ll : Nat} (h : Shws ds dd ll) : Shw (.tup ds) (dd + 1) (ll + 5) := by
  have h1 := h.dp
  have h2 := h.ln
  have h3 := tup_len (PyData.shownAll (rps ds))
  refine ⟨by simp only [D.flat, h.flat], by simp only [D.rp, PyData.showable, h.sh], ?_, ?_⟩
  · simp only [D.rp, PyData.depth]; omega
  · simp only [D.rp, PyData.shown]; omega
theorem Shws.lst {ds : List D} {dd ll : Nat} (h : Shws ds dd ll) : Shw (.lst ds) (dd + 1) (ll + 5) := by
  have h1 := h.dp
  have h2 := h.ln
  have h3 := lst_len (PyData.shownAll (rps ds))
  refine ⟨by simp only [D.flat, h.flat], by simp only [D.rp, PyData.showable, h.sh], ?_, ?_⟩
  · simp only [D.rp, PyData.depth]; omega
  · simp only [D.rp, PyData.shown]; omega
theorem shw_str {x : Str} {l : Nat} (h : (reprText x).length + 2 ≤ l) : Shw (.str x) 1 l :=
  ⟨rfl, rfl, by simp only [D.rp, PyData.depth]; omega, by simp only [D.rp, PyData.shown]; exact h⟩
theorem nat_len : ∀ i : Nat, i < 451 → ((toString (i : Int) : String) : Str).length ≤ 8 := by
  decide +kernel
theorem shw_nat {i : Nat} (h : i < 451) : Shw (.int (i : Nat)) 1 10 := by
  refine ⟨rfl, ?_, by simp only [D.rp, PyData.depth]; omega, ?_⟩
  · simp only [D.rp, PyData.showable]
    refine decide_eq_true ?_
    have h1 : ((i : Int)).natAbs = i := Int.natAbs_natCast i
    rw [h1]
    exact Nat.lt_of_le_of_lt (Nat.log2_le_self i) (by omega)
  · have := nat_len i h
    simp only [D.rp, PyData.shown]
    omega
theorem vS_len (j : Fin 3) : (reprText (vS j)).length + 2 ≤ 12 := by
  revert j; decide +kernel
theorem rS_len (j : Fin 3) : (reprText (rS j)).length + 2 ≤ 12 := by
  revert j; decide +kernel
theorem rV_len (j : Fin 3) : (reprText (rV j)).length + 2 ≤ 12 := by
  revert j; decide +kernel
theorem hS_len (j : Fin 6) : (reprText (hS j)).length + 2 ≤ 12 := by
  revert j; decide +kernel
mutual
theorem shw_tm : ∀ t : Tm, okT t = true → Shw t.d (2 * dep t) (40 * sz t)
  | .num i, h => by
    simp only [okT, Bool.or_eq_true, beq_iff_eq] at h
    simp only [Tm.d, dep, sz]
    have fin : ∀ i : Int, (PyData.int i).showable = true → (PyData.int i).shown.length + 2 ≤ 40 → Shw (.int i) (2 * 1) (40 * 1) := fun i h1 h2 => ⟨rfl, h1, by simp only [D.rp, PyData.depth]; omega, h2⟩
    rcases h with (rfl | rfl) | rfl
    · exact fin 0 (by decide +kernel) (by decide +kernel)
    · exact fin (-3) (by decide +kernel) (by decide +kernel)
    · exact fin 1000 (by decide +kernel) (by decide +kernel)
  | .var j, _ => by simp only [Tm.d, dep, sz]; exact (shw_str (vS_len j)).mono (by omega) (by omega)
  | .rst j, _ => by simp only [Tm.d, dep, sz]; exact (shw_str (rS_len j)).mono (by omega) (by omega)
  | .app h as, ho => by
    simp only [okT] at ho
    have i := (shw_tms as ho).tup
    have := ((shw_str (hS_len h)).cons (i.cons shws_nil)).tup
    simp only [Tm.d, dep, sz]
    exact this.mono (by omega) (by omega)
theorem shw_tms : ∀ ts : List Tm, okA ts = true → Shws (ds ts) (2 * deps ts) (40 * szs ts)
  | [], _ => by simp only [ds, deps, szs]; exact shws_nil
  | t :: ts, h => by
    simp only [okA, Bool.and_eq_true] at h
    simp only [ds, deps, szs]
    exact ((shw_tm t h.1.1).cons (shw_tms ts h.2)).mono (by omega) (by omega)
end
end K12
set_option maxHeartbeats 0
namespace K12
open VM Law
open L2 (atI ixN)
section
variable {n k : Nat} {μ μ' : Sto}
/-- a comprehension that draws, any values -/
theorem lc_sd {step : D → Sto → Res (Option D)} {P : D → Prop} (hs : ∀ (d : D) (μ : Sto), PotAt μ k → ∃ (t : D) (μ' : Sto), step d μ = .ok (some t) μ' ∧ Nxt μ μ' k ∧ P t) (s : List D) (hl : s.length ≤ LIM) : ∀ (m i : Nat) (μ : Sto), PotAt μ k → i ≤ s.length → s.length < i + m →
    ∃ (ts : List D) (μ' : Sto), lcLoop (.vals s) step m i μ = .ok ts μ' ∧ Nxt μ μ' k ∧ ts.length = s.length - i ∧ ∀ t ∈ ts, P t
  | 0, i, μ, hp, h1, h2 => by omega
  | m + 1, i, μ, hp, h1, h2 => by
    unfold lcLoop
    simp only [src_vals]
    cases e : s[i]? with
    | none =>
      have : s.length ≤ i := List.getElem?_eq_none_iff.mp e
      exact ⟨[], μ, rfl, .refl hp, by simp; omega, fun t ht => by simp at ht⟩
    | some d =>
      have hi : i < s.length := (List.getElem?_eq_some_iff.mp e).1
      obtain ⟨t, μ1, e1, n1, p1⟩ := hs d μ hp
      obtain ⟨ts, μ2, e2, n2, l2, p2⟩ := lc_sd hs s hl m (i + 1) μ1 (n1.pot hp.lt) (by omega) (by omega)
      refine ⟨t :: ts, μ2, ?_, n1.trans n2, by rw [List.length_cons]; omega, fun u hu => (List.mem_cons.mp hu).elim (fun h => h ▸ p1) (p2 u)⟩
      simp only
      rw [if_pos (by omega), e1, Res.bind_ok, e2, Res.bind_ok]
theorem ix_lst {l : List D} {i : Nat} (h : i < l.length) : opIx (.lst l) (.int (i : Nat)) = some (.dat l[i]) := by
  show (atI l (i : Nat)).map EV.dat = _
  unfold L2.atI L2.ixN
  rw [if_pos (by omega), if_pos (by omega)]
  simp [List.getElem?_eq_getElem h]
/-- an index drawn -/
theorem mod_lt {d m : Nat} (h : 0 < m) : opBin .Mod (.int (d : Nat)) (.int (m : Nat)) = some (.dat (.int ((d % m : Nat) : Int))) := by
  have c : (0 : Int) < (m : Nat) := by omega
  show (if (0 : Int) < (m : Nat) then some (EV.dat (.int (((d : Nat) : Int) % ((m : Nat) : Int)))) else none) = _
  rw [if_pos c]
  congr 3
theorem s_some (hp : PotAt μ k) (l : List D) (many : Nat) (h0 : 0 < l.length) (hm : many ≤ 1000) : ∃ (v : EV) (s : List D) (μ' : Sto), VM.run T (n + 2) 32 [.cel k, .dat (.lst l), .dat (.int (many : Nat))] μ = .ok v μ' ∧ Nxt μ μ' k ∧ (∀ d ∈ s, d ∈ l) ∧ s.length ≤ many ∧ (v = .dat (.lst s) ∨ v = .new (.lst s)) := by
  have hk := hp.lt
  have bl : bLen [.lst l] = some (.dat (.int l.length)) := rfl
  have le : opCmp .LtE (.int (l.length : Nat)) (.int (many : Nat)) = some (decide ((l.length : Int) ≤ many)) := rfl
  rw [run_at (nl := 4) (b := P__law_some) (by rfl)]
  unfold P__law_some
  by_cases c : l.length ≤ many
  · refine ⟨.dat (.lst l), l, μ, ?_, .refl hp, fun d h => h, c, .inl rfl⟩
    have c' : decide ((l.length : Int) ≤ many) = true := decide_eq_true (by omega)
    rw [c'] at le
    generalize ((l.length : Nat) : Int) = x at bl le
    generalize ((many : Nat) : Int) = y at le ⊢
    simp [startE, bl, le, VM.callEnd, EV.out]
  · have c' : decide ((l.length : Int) ≤ many) = false := decide_eq_false (by omega)
    rw [c'] at le
    obtain ⟨s, rg, sl⟩ := rng1 many hm
    obtain ⟨es, μ', lc, nx, el, ep⟩ := lc_sd (k := k) (P := fun d => d ∈ l) (step := lcStep (VM.run T (n + 1)) (.nm 3) bYes (eIx (eV 1) (eBin .Mod (eCall 24 (evs [eV 0, eC (.int 211)])) (eCb bLen (evs [eV 1])))) [some (.cel k), some (.dat (.lst l)), some (.dat (.int (many : Nat))), none]) (fun d μ hp => by
      obtain ⟨w, μ1, hw, n1, e1⟩ := s_draw (n := n) hp 211 (by decide) (by decide)
      have hi : w % l.length < l.length := Nat.mod_lt _ h0
      have md := mod_lt (d := w) h0
      have ix := ix_lst hi
      refine ⟨l[w % l.length], μ1, ?_, n1, List.getElem_mem hi⟩
      generalize ((w % l.length : Nat) : Int) = y at md ix
      generalize l[w % l.length] = z at ix ⊢
      generalize ((l.length : Nat) : Int) = x at bl md
      simp only [x_step, asg, List.length_cons, List.length_nil]
      simp [e1, bl, md, ix]) s (lim1 (by omega)) (s.length + 1) 0 μ hp (Nat.zero_le _) (by omega)
    have lm : es.length ≤ LIM := lim1 (by omega)
    refine ⟨.new (.lst es), es, μ', ?_, nx, ep, by omega, .inr rfl⟩
    have tk : μ'.take μ.length = μ' := List.take_of_length_le (by rw [nx.len]; exact Nat.le_refl _)
    generalize ((l.length : Nat) : Int) = x at bl le
    generalize ((many : Nat) : Int) = y at le rg lc ⊢
    simp [startE, bl, le, rg, wipeE, lc, lm, VM.callEnd, EV.out, tk]
end
end K12
set_option maxHeartbeats 0
namespace K12
open VM Law
open L2 (atI ixN)
mutual
theorem eqv_refl : ∀ (n : Nat) (d : D), fits n d = true → eqv d d = true
  | n, .non, _ => by simp only [eqv]
  | n, .bl b, _ => by simp [eqv]
  | n, .int i, _ => by simp [eqv]
  | n, .str x, _ => by simp [eqv]
  | 0, .tup ds, h => by simp [fits] at h
  | 0, .lst ds, h => by simp [fits] at h
  | n + 1, .tup ds, h => by simp only [fits] at h; simp only [eqv]; exact eqvs_refl n ds h
  | n + 1, .lst ds, h => by simp only [fits] at h; simp only [eqv]; exact eqvs_refl n ds h
  | 0, .dic _ _, h => by simp [fits] at h
  | 0, .scr _, h => by simp [fits] at h
  | n + 1, .dic _ _, h => by simp [fits] at h
  | n + 1, .scr _, h => by simp [fits] at h
theorem eqvs_refl : ∀ (n : Nat) (ds : List D), fitsAll n ds = true → eqvs ds ds = true
  | n, [], _ => by simp [eqvs]
  | n, d :: ds, h => by
    simp only [fitsAll, Bool.and_eq_true] at h
    simp only [eqvs, eqv_refl n d h.1, eqvs_refl n ds h.2, Bool.and_self]
end
theorem ne_self {d : D} (h : fits 64 d = true) : opCmp .NotEq d d = some false := by
  simp only [opCmp, opEq]
  cases e : txEq d d with
  | none =>
    simp only [h, eqv_refl 64 d h]
    rfl
  | some b =>
    cases d <;> simp [txEq] at e
    subst e
    simp
section
variable {n k : Nat} {μ μ' : Sto}
theorem le_int {i j : Int} (h : i ≤ j) : opCmp .LtE (.int i) (.int j) = some true := by
  show some (decide (i ≤ j)) = _
  rw [decide_eq_true h]
theorem add_pD {p q : List Nat} (h : p.length + q.length ≤ 1000) : opBin .Add (pD p) (pD q) = some (.dat (pD (p ++ q))) := by
  show (if _ then some (EV.dat (.tup (_ ++ _))) else none) = _
  rw [if_pos (lim1 (by simpa using h)), ← List.map_append]; rfl
theorem paths_mem {u : Tm} (hr : isR u = false) {d : D} (h : d ∈ (sortL ((allQ [] u).map iP)).map ofTup) : ∃ (q : List Nat) (w : Tm), d = pD q ∧ sub u q = some w ∧ isR w = false := by
  obtain ⟨l, h1, rfl⟩ := List.mem_map.mp h
  obtain ⟨q, h2, rfl⟩ := List.mem_map.mp ((sortL_perm _).mem_iff.mp h1)
  obtain ⟨w, h3, h4⟩ := allQ_sub hr h2
  exact ⟨q, w, (pD_of q).symm, h3, h4⟩
theorem paths_len (u : Tm) : 0 < ((sortL ((allQ [] u).map iP)).map ofTup).length ∧ ((sortL ((allQ [] u).map iP)).map ofTup).length ≤ sz u := by
  have h := allQ_len [] u
  have h0 : 0 < (allQ [] u).length := by cases u <;> simp [allQ]
  rw [List.length_map, (sortL_perm _).length_eq, List.length_map]
  exact ⟨h0, h⟩
theorem sub_Good {t u : Tm} {p : List Nat} (g : Good t) (h : sub t p = some u) (hr : isR u = false) : Good u ∧ p.length + dep u ≤ dep t ∧ p.length + sz u ≤ sz t := by
  obtain ⟨h1, h2, h3⟩ := sub_good p t u h g.ok
  have h4 := g.dp
  have h5 := g.sz
  exact ⟨⟨h1, hr, by omega, by omega⟩, h2, h3⟩
/-- a loop that changes no store -/
theorem for_same {F : Fns} {b : SS} {s : List D} {I : Env → Prop} {j : Nat} (hb : ∀ d ∈ s, ∀ ρ, I ρ → ∃ ρ', b F (ρ.set j (some (.dat d))) μ = .ok (.nx ρ') μ ∧ I ρ') : ∀ (m i : Nat) (ρ : Env), I ρ → i ≤ s.length → s.length < i + m → ∃ ρ', forL F (.vals s) (gNm j) b m i ρ μ = .ok (.nx ρ') μ ∧ I ρ'
  | 0, i, ρ, _, h1, h2 => by omega
  | m + 1, i, ρ, hI, h1, h2 => by
    unfold forL
    simp only [src_vals]
    cases e : s[i]? with
    | none => exact ⟨ρ, rfl, hI⟩
    | some d =>
      have hi : i < s.length := (List.getElem?_eq_some_iff.mp e).1
      obtain ⟨ρ1, e1, i1⟩ := hb d (List.mem_of_getElem? e) ρ hI
      obtain ⟨ρ2, e2, i2⟩ := for_same hb m (i + 1) ρ1 i1 (by omega) (by omega)
      refine ⟨ρ2, ?_, i2⟩
      simp only [xg_nm, Res.bind_ok]
      rw [e1]
      exact e2
theorem s_within {t u : Tm} {p : List Nat} (hp : PotAt μ k) (g : Good t) (h : sub t p = some u) (hr : isR u = false) : ∃ μ', VM.run T (n + 7) 33 [.cel k, .dat t.d, .dat (pD p)] μ = .ok (.dat (.bl true)) μ' ∧ Nxt μ μ' k := by
  obtain ⟨gu, l1, l2⟩ := sub_Good g h hr
  have gt := g.dp
  have gz := g.sz
  rw [run_at (nl := 5) (b := P__law_within_right) (by rfl)]
  unfold P__law_within_right
  have e1 := s_partAt (n := n) (μ := μ) g h hr
  have e2 := s_paths (n := n) (μ := μ) gu
  obtain ⟨z0, z1⟩ := paths_len u
  have pm : ∀ d ∈ (sortL ((allQ [] u).map iP)).map ofTup, _ := fun d hd => paths_mem hr hd
  obtain ⟨v, s, μ', e3, nx, sm, sl, sv⟩ := s_some (n := n + 4) hp _ 5 z0 (by omega)
  rw [show n + 4 + 2 = n + 6 by omega, show ((5 : Nat) : Int) = 5 from rfl] at e3
  have l3 : s.length ≤ LIM := lim1 (by omega)
  have sv' : srcOf v μ' = some (.vals s) := by rcases sv with rfl | rfl <;> rfl
  have loop := for_same (F := VM.run T (n + 6)) (b := sIf (bCmp (opCmp .NotEq) (eCall 22 (evs [eV 3, eV 4])) (eCall 22 (evs [eV 1, eBin .Add (eV 2) (eV 4)]))) (sRet (eC (.bl false))) (sPass)) (s := s) (j := 4) (μ := μ') (I := fun ρ => ∃ o4, ρ = [some (.cel k), some (.dat t.d), some (.dat (pD p)), some (.dat u.d), o4]) (fun d hd ρ hI => by
    obtain ⟨o4, rfl⟩ := hI
    obtain ⟨q, w, rfl, h1, h2⟩ := pm d (sm d hd)
    obtain ⟨gw, m1, m2⟩ := sub_Good gu h1 h2
    have f1 := s_partAt (n := n) (μ := μ') gu h1 h2
    have f2 := s_partAt (n := n) (μ := μ') g (by rw [sub_app p q t u h]; exact h1) h2
    have f3 : opBin .Add (pD p) (pD q) = some (.dat (pD (p ++ q))) := add_pD (by omega)
    have f4 : opCmp .NotEq w.d w.d = some false := ne_self (d_fits w 64 (by have := gw.dp; omega))
    refine ⟨[some (.cel k), some (.dat t.d), some (.dat (pD p)), some (.dat u.d), some (.dat (pD q))], ?_, _, rfl⟩
    simp [f1, f2, f3, f4]) (s.length + 1) 0 _ ⟨none, rfl⟩ (Nat.zero_le _) (by omega)
  obtain ⟨ρ', e4, o4, rfl⟩ := loop
  refine ⟨μ', ?_, nx⟩
  have n1 := s_nodes (n := n) (μ := μ') gu
  have n2 := s_nodes (n := n) (μ := μ') g
  have n3 := s_depth (n := n) (μ := μ') gu
  have n4 := s_depth (n := n) (μ := μ') g
  rw [pcs_len] at n1 n2
  have bl : bLen [pD p] = some (.dat (.int (p.length : Nat))) := by
    show some (EV.dat (.int ((p.map fun i => D.int (i : Nat)).length : Nat))) = _
    rw [List.length_map]
  have c1 : opCmp .LtE (.int (sz u : Nat)) (.int ((sz t : Int) - (p.length : Nat))) = some true := le_int (by omega)
  have c2 : opCmp .LtE (.int (dep u : Nat)) (.int ((dep t : Int) - (p.length : Nat))) = some true := le_int (by omega)
  have subI : ∀ {i j : Int}, opBin .Sub (.int i) (.int j) = some (.dat (.int (i - j))) := rfl
  have tk : μ'.take μ.length = μ' := List.take_of_length_le (by rw [nx.len]; exact Nat.le_refl _)
  generalize (sz u : Int) = a1 at n1 c1
  generalize (sz t : Int) = a2 at n2 c1
  generalize (dep u : Int) = a3 at n3 c2
  generalize (dep t : Int) = a4 at n4 c2
  generalize ((p.length : Nat) : Int) = a5 at bl c1 c2
  simp [startE, e1, e2, e3, sv', e4, n1, n2, n3, n4, bl, subI, c1, c2, VM.callEnd, EV.out, tk]
end
end K12
set_option maxHeartbeats 0
namespace K12
open VM Law
open L2 (atI ixN)
section
variable {μ : Sto}
theorem lc_src {S : Src} {s : List D} {step : D → Sto → Res (Option D)} (h : S.at μ = some s) (hs : ∀ d ∈ s, ∃ o, step d μ = .ok o μ) : ∀ (m i : Nat), lcLoop S step m i μ = lcLoop (.vals s) step m i μ
  | 0, i => by unfold lcLoop; rfl
  | m + 1, i => by
    unfold lcLoop
    rw [h]
    simp only [src_vals]
    cases e : s[i]? with
    | none => rfl
    | some d =>
      obtain ⟨o, e1⟩ := hs d (List.mem_of_getElem? e)
      simp only [e1, Res.bind_ok]
      rw [lc_src h hs m (i + 1)]
theorem lc_rows {S : Src} {Q : List (List Nat × Tm)} {step : D → Sto → Res (Option D)} {f : List Nat × Tm → D} {c : List Nat × Tm → Bool} (hS : S.at μ = some (Q.map encQ)) (h : ∀ q ∈ Q, step (encQ q) μ = .ok (if c q then some (f q) else none) μ) (hl : Q.length ≤ 900) : lcLoop S step (Q.length + 1) 0 μ = .ok ((Q.filter c).map f) μ := by
  rw [lc_src hS (fun d hd => by
    obtain ⟨q, hq, rfl⟩ := List.mem_map.mp hd
    exact ⟨_, h q hq⟩)]
  have e := lc_pure (s := Q.map encQ) (step := step) (g := fun d => match step d μ with | .ok o _ => o | _ => none) (μ := μ) (fun d hd => by
    obtain ⟨q, hq, rfl⟩ := List.mem_map.mp hd
    rw [h q hq]) (Q.length + 1) 0 (Nat.zero_le _) (by rw [List.length_map]; omega) (by rw [List.length_map]; exact lim1 (by omega))
  rw [e, List.drop_zero]
  congr 1
  clear e hl hS
  induction Q with
  | nil => rfl
  | cons q Q ih =>
    simp only [List.map_cons, List.filterMap_cons, h q List.mem_cons_self]
    rw [ih fun u hu => h u (List.mem_cons_of_mem _ hu)]
    cases hc : c q <;> simp [hc]
theorem encs {s : List D} {P : List Nat × Tm → Prop} (h : ∀ d ∈ s, ∃ q, P q ∧ d = encQ q) : ∃ Q : List (List Nat × Tm), s = Q.map encQ ∧ ∀ q ∈ Q, P q := by
  induction s with
  | nil => exact ⟨[], rfl, fun q h => by simp at h⟩
  | cons d s ih =>
    obtain ⟨q, p, rfl⟩ := h d List.mem_cons_self
    obtain ⟨Q, rfl, hq⟩ := ih fun e he => h e (List.mem_cons_of_mem _ he)
    exact ⟨q :: Q, rfl, fun r hr => (List.mem_cons.mp hr).elim (fun e => e ▸ p) (hq r)⟩
theorem szs_ge : ∀ ts : List Tm, ts.length ≤ szs ts
  | [] => by simp
  | t :: ts => by
    have := szs_ge ts
    have h1 : 1 ≤ sz t := by cases t <;> simp only [sz] <;> omega
    simp only [List.length_cons, szs]; omega
theorem st_one {a b : PySem.Str} (ha : (PySem.reprText a).length + 2 ≤ 12) (hb : (PySem.reprText b).length + 2 ≤ 12) (h1 : fits 62 (.str a) = true) (h2 : fits 62 (.str b) = true) : Shw (.tup [.str a, .str b]) 2 40 ∧ fits 63 (.tup [.str a, .str b]) = true :=
  ⟨(((shw_str ha).cons ((shw_str hb).cons shws_nil)).tup).mono (by omega) (by omega), by simp only [fits, fitsAll] at h1 h2 ⊢; rw [h1, h2]; rfl⟩
theorem sub_lt : ∀ (r : List Nat) (t u : Tm), sub t r = some u → (∀ i ∈ r, i < sz t) ∧ r.length ≤ dep t
  | [], t, u, h => ⟨fun i h => by simp at h, by simp⟩
  | i :: r, t, u, h => by
    obtain ⟨hh, as, v, rfl, e1, e2⟩ := sub_cons h
    obtain ⟨a1, a2⟩ := sub_lt r v u e2
    have := deps_get e1
    have hl : i < as.length := (List.getElem?_eq_some_iff.mp e1).1
    refine ⟨fun j hj => ?_, ?_⟩
    · rcases List.mem_cons.mp hj with rfl | hj
      · have := szs_ge as
        simp only [sz]; omega
      · have := a1 j hj
        simp only [sz]; omega
    · simp only [dep, List.length_cons]; omega
theorem shw_pD {q : List Nat} (h : ∀ i ∈ q, i < 450) (hl : q.length ≤ 25) : Shw (pD q) 2 255 := by
  have h1 : Shws (q.map fun i => D.int (i : Nat)) 1 (10 * (q.map fun i => D.int (i : Nat)).length) := shws_all fun d hd => by
    obtain ⟨i, hi, rfl⟩ := List.mem_map.mp hd
    exact shw_nat (by have := h i hi; omega)
  rw [List.length_map] at h1
  exact h1.tup.mono (by omega) (by omega)
theorem shw_S {t : Tm} (g : Good t) : Shw (.lst ((sortL ((allQ [] t).map iP)).map ofTup)) 3 120000 := by
  have h1 : Shws ((sortL ((allQ [] t).map iP)).map ofTup) 2 (255 * ((sortL ((allQ [] t).map iP)).map ofTup).length) := shws_all fun d hd => by
    obtain ⟨q, w, rfl, h2, h3⟩ := paths_mem g.nr hd
    obtain ⟨h4, h5⟩ := sub_lt q t w h2
    have := g.dp
    have := g.sz
    exact shw_pD (fun i hi => by have := h4 i hi; omega) (by omega)
  have := (paths_len t).2
  have := g.sz
  exact h1.lst.mono (by omega) (by omega)
theorem uq_mem : ∀ (l acc : List D) {d : D}, d ∈ uq acc l → d ∈ acc ∨ d ∈ l
  | [], acc, d, h => .inl h
  | e :: l, acc, d, h => by
    unfold uq at h
    by_cases c : hasV acc e = true
    · rw [if_pos c] at h
      exact (uq_mem l acc h).imp id (List.mem_cons_of_mem _)
    · rw [if_neg c] at h
      rcases uq_mem l _ h with h | h
      · rcases List.mem_append.mp h with h | h
        · exact .inl h
        · rw [List.mem_singleton.mp h]; exact .inr List.mem_cons_self
      · exact .inr (List.mem_cons_of_mem _ h)
theorem uq_len' : ∀ (l acc : List D), (uq acc l).length ≤ acc.length + l.length
  | [], acc => by simp [uq]
  | e :: l, acc => by
    unfold uq
    by_cases c : hasV acc e = true
    · rw [if_pos c]
      have := uq_len' l acc
      rw [List.length_cons]; omega
    · rw [if_neg c]
      have := uq_len' l (acc ++ [e])
      rw [List.length_append, List.length_singleton] at this
      rw [List.length_cons]; omega
mutual
theorem st_all : ∀ t : Tm, (∀ d ∈ stD t, Shw d 2 40 ∧ fits 63 d = true) ∧ (stD t).length ≤ sz t
  | .num _ => by simp [stD]
  | .var x => by
    refine ⟨fun d hd => ?_, by simp [stD, sz]⟩
    simp only [stD, List.mem_singleton] at hd
    subst hd
    exact st_one (by decide +kernel) (vS_len x) (by decide) (vS_fits x 62)
  | .rst x => by
    refine ⟨fun d hd => ?_, by simp [stD, sz]⟩
    simp only [stD, List.mem_singleton] at hd
    subst hd
    exact st_one (by decide +kernel) (rV_len x) (by decide) (rV_fits x 62)
  | .app h as => by
    obtain ⟨i1, i2⟩ := st_alls as
    refine ⟨fun d hd => ?_, by simp only [stD, sz, List.length_append]; split <;> simp <;> omega⟩
    simp only [stD, List.mem_append] at hd
    rcases hd with hd | hd
    · split at hd
      · rw [List.mem_singleton.mp hd]
        exact st_one (by decide +kernel) (hS_len h) (by decide) (hS_fits h 62)
      · simp at hd
    · exact i1 d hd
theorem st_alls : ∀ ts : List Tm, (∀ d ∈ stDs ts, Shw d 2 40 ∧ fits 63 d = true) ∧ (stDs ts).length ≤ szs ts
  | [] => by simp [stDs]
  | t :: ts => by
    obtain ⟨h1, h2⟩ := st_all t
    obtain ⟨i1, i2⟩ := st_alls ts
    refine ⟨fun d hd => ?_, by simp only [stDs, szs, List.length_append]; omega⟩
    simp only [stDs, List.mem_append] at hd
    exact hd.elim (h1 d) (i1 d)
end
theorem shw_V {t : Tm} (g : Good t) : Shw (.lst (uq [] (stD t))) 3 120000 ∧ fits 64 (.lst (uq [] (stD t))) = true ∧ (uq [] (stD t)).length ≤ 450 := by
  obtain ⟨h1, h2⟩ := st_all t
  have hm : ∀ d ∈ uq [] (stD t), Shw d 2 40 ∧ fits 63 d = true := fun d hd => h1 d ((uq_mem _ _ hd).resolve_left (by simp))
  have hl := uq_len' (stD t) []
  have := g.sz
  simp only [List.length_nil] at hl
  have h3 := shws_all fun d hd => (hm d hd).1
  exact ⟨h3.lst.mono (by omega) (by omega), by simp only [fits]; exact fitsAll_mem fun d hd => (hm d hd).2, by omega⟩
theorem fits_S {t : Tm} (g : Good t) : fits 64 (.lst ((sortL ((allQ [] t).map iP)).map ofTup)) = true := by
  simp only [fits]
  exact fitsAll_mem fun d hd => by
    obtain ⟨q, w, rfl, _, _⟩ := paths_mem g.nr hd
    exact pD_fits q 62
theorem shw_two {a b : Nat} (ha : a < 451) (hb : b < 451) : Shw (.lst [.int (a : Nat), .int (b : Nat)]) 3 100 :=
  (((shw_nat ha).cons ((shw_nat hb).cons shws_nil)).lst).mono (by omega) (by omega)
theorem repr_of {l : List D} {dd ll : Nat} (h : Shw (.lst l) dd ll) (h1 : dd ≤ 150) (h2 : ll ≤ 900000) : ∃ x, fRepr [.lst l] = some (.dat (.str x)) := by
  refine ⟨_, if_pos ?_⟩
  rw [h.ok h1 (Nat.le_trans h2 (by decide))]
  rfl
theorem ne_str {x : PySem.Str} : opCmp .NotEq (.str x) (.str x) = some false := by
  simp [opCmp, opEq, txEq]
end
end K12
set_option maxHeartbeats 0
namespace K12
open VM Law
open L2 (atI ixN)
def cL (l : List D) : Cell := ⟨true, .lst l⟩
def rowsL (t : Tm) : List D := (pre [] t).map encQ
def pathL (t : Tm) : List D := (sortL ((allQ [] t).map iP)).map ofTup
def namL (t : Tm) : List D := uq [] (stD t)
section
variable {a b : Int} {t : Tm} {ns : List Int}
theorem law_a (h : ns.length ≤ 63) : ∃ a b : Int, sSet 1 (eCall 23 (evs [eV 0, eC (.int 0)])) (VM.run T 99) (startE 10 [.dat (.scr ns)]) [] = .ok (.nx [some (.dat (.scr ns)), some (.cel 0), none, none, none, none, none, none, none, none]) [potC a b] := by
  obtain ⟨a, b, e⟩ := s_pot (n := 98) (μ := []) ns h
  refine ⟨a, b, ?_⟩
  rw [show 98 + 1 = 99 from rfl] at e
  simp [startE, e, potC]
theorem law_b : ∃ (t : Tm) (c d : Int), sSet 2 (eIf (bCmp (opCmp .Eq) (eCall 24 (evs [eV 1, eC (.int 4)])) (eC (.int 0))) (eCall 27 (evs [eV 1])) (eCall 26 (evs [eV 1, eBin .Add (eC (.int 1)) (eCall 24 (evs [eV 1, eC (.int 3)]))]))) (VM.run T 99) [some (.dat (.scr ns)), some (.cel 0), none, none, none, none, none, none, none, none] [potC a b] =
    .ok (.nx [some (.dat (.scr ns)), some (.cel 0), some (.dat t.d), none, none, none, none, none, none, none]) [potC c d] ∧ Good t := by
  have hp : PotAt [potC a b] 0 := ⟨a, b, rfl⟩
  obtain ⟨w, μ1, hw, n1, e1⟩ := s_draw (n := 98) hp 4 (by decide) (by decide)
  have hp1 := n1.pot hp.lt
  rw [show 98 + 1 = 99 from rfl] at e1
  have q1 : opCmp .Eq (.int (w : Nat)) (.int 0) = some ((w : Int) == 0) := by simp [opCmp, opEq_int]
  by_cases c : w = 0
  · obtain ⟨t, μ2, e2, n2, o1, o2, o3, o4⟩ := s_great (n := 93) hp1
    rw [show 93 + 6 = 99 from rfl] at e2
    obtain ⟨x, y, rfl⟩ := n1.trans n2
    refine ⟨t, x, y, ?_, o1, o2, by omega, by omega⟩
    have b1 : ((w : Int) == 0) = true := by simp [c]
    rw [b1] at q1
    simp [e1, q1, e2]
  · obtain ⟨v, μ2, hv, n2, e2⟩ := s_draw (n := 98) hp1 3 (by decide) (by decide)
    rw [show 98 + 1 = 99 from rfl] at e2
    have hp2 := n2.pot hp1.lt
    obtain ⟨t, μ3, e3, n3, o1, o2, o3, o4⟩ := s_term (1 + v) (95 - v) μ2 hp2
    rw [show 95 - v + 3 + (1 + v) = 99 by omega] at e3
    obtain ⟨x, y, rfl⟩ := (n1.trans n2).trans n3
    have s3 : Sd (1 + v) ≤ 53 := by
      have : v = 0 ∨ v = 1 ∨ v = 2 := by omega
      rcases this with rfl | rfl | rfl <;> decide
    refine ⟨t, x, y, ?_, o1, o2, by omega, by omega⟩
    have b1 : ((w : Int) == 0) = false := by simpa using c
    rw [b1] at q1
    rw [Int.natCast_add] at e3
    simp at e3
    simp [e1, q1, e2, addI, e3]
theorem law_c (g : Good t) : sSet 3 (eCall 29 (evs [eV 2])) (VM.run T 99) [some (.dat (.scr ns)), some (.cel 0), some (.dat t.d), none, none, none, none, none, none, none] [potC a b] =
    .ok (.nx [some (.dat (.scr ns)), some (.cel 0), some (.dat t.d), some (.cel 1), none, none, none, none, none, none]) [potC a b, cL (rowsL t)] := by
  have e := s_rows (n := 98) (μ := [potC a b]) g
  rw [show 98 + 1 = 99 from rfl] at e
  simp [e, cL, rowsL]
theorem src1 {E : Sto} : (Src.cell 1).at (potC a b :: cL (rowsL t) :: E) = some ((pre [] t).map encQ) := rfl
theorem len1 {E : Sto} : (Src.cell 1).len (potC a b :: cL (rowsL t) :: E) = (pre [] t).length := by
  show ((pre [] t).map encQ).length = _
  rw [List.length_map]
theorem sof1 {E : Sto} : srcOf (.cel 1) (potC a b :: cL (rowsL t) :: E) = some (.cell 1) := rfl
theorem see1 {E : Sto} : (EV.cel 1).see (potC a b :: cL (rowsL t) :: E) = some (.lst (rowsL t)) := rfl
theorem law_d (g : Good t) : sSet 4 (eCb fSorted (evs [eLc (iOf (eV 3)) (.tup [.nm 8, .nm 9]) (bNot (bTru (eCall 28 (evs [eV 9])))) (eV 8) [8, 9]])) (VM.run T 99) [some (.dat (.scr ns)), some (.cel 0), some (.dat t.d), some (.cel 1), none, none, none, none, none, none] [potC a b, cL (rowsL t)] =
    .ok (.nx [some (.dat (.scr ns)), some (.cel 0), some (.dat t.d), some (.cel 1), some (.cel 2), none, none, none, none, none]) [potC a b, cL (rowsL t), cL (pathL t)] := by
  have gz := g.sz
  have hl := pre_len [] t
  have lc := lc_rows (S := .cell 1) (Q := pre [] t) (f := fun q => pD q.1) (c := fun q => !isR q.2) (μ := [potC a b, cL (rowsL t)]) (step := lcStep (VM.run T 99) (.tup [.nm 8, .nm 9]) (bNot (bTru (eCall 28 (evs [eV 9])))) (eV 8) [some (.dat (.scr ns)), some (.cel 0), some (.dat t.d), some (.cel 1), none, none, none, none, none, none]) rfl (fun q _ => by
    have e := l_isRest (n := 98) (μ := [potC a b, cL (rowsL t)]) q.2
    rw [show 98 + 1 = 99 from rfl] at e
    simp only [x_step, encQ]
    cases c : isR q.2 <;> rw [c] at e <;> simp [asg, asgs, e]) (by omega)
  have fs : fSorted [.lst (((pre [] t).filter fun q => !isR q.2).map fun q => pD q.1)] = some (.new (.lst (pathL t))) := by
    have e1 : (((pre [] t).filter fun q => !isR q.2).map fun q => pD q.1) = (nrs (pre [] t)).map pD := by simp [nrs]
    have e2 : ((nrs (pre [] t)).map pD).length ≤ LIM := by
      rw [List.length_map, nrs, List.length_map]
      exact lim1 (by have := List.length_filter_le (fun q : List Nat × Tm => !isR q.2) (pre [] t); omega)
    rw [e1]
    show (if ((nrs (pre [] t)).map pD).length ≤ LIM then (tupsD ((nrs (pre [] t)).map pD)).map fun n => EV.new (.lst ((sortL n).map ofTup)) else none) = _
    rw [if_pos e2, tupsD_of, Option.map_some, sortL_eq ((perm_pre [] t g.nr).map iP).symm]
    rfl
  have lm : (((pre [] t).filter fun q => !isR q.2).map fun q => pD q.1).length ≤ LIM := by
    rw [List.length_map]
    exact lim1 (by have := List.length_filter_le (fun q : List Nat × Tm => !isR q.2) (pre [] t); omega)
  generalize VM.run T 99 = F at lc ⊢
  generalize (((pre [] t).filter fun q => !isR q.2).map fun q => pD q.1) = L at lc fs lm
  simp [sof1, len1, wipeE, lc, lm, fs]
  rfl
theorem law_e (g : Good t) : sPar 5 6 (eCall 21 (evs [eV 2])) (eCallK 18 (evs []) (evs [eV 2]) [0]) (VM.run T 99) [some (.dat (.scr ns)), some (.cel 0), some (.dat t.d), some (.cel 1), some (.cel 2), none, none, none, none, none] [potC a b, cL (rowsL t), cL (pathL t)] =
    .ok (.nx [some (.dat (.scr ns)), some (.cel 0), some (.dat t.d), some (.cel 1), some (.cel 2), some (.cel 3), some (.cel 4), none, none, none]) [potC a b, cL (rowsL t), cL (pathL t), cL (pathL t), cL (namL t)] := by
  have e1 := fun μ => s_paths (n := 93) (μ := μ) g
  have e2 := fun μ => s_variables (n := 93) (μ := μ) g
  rw [show 93 + 6 = 99 from rfl] at e1 e2
  simp [e1, e2, cL, pathL, namL]
end
end K12
set_option maxHeartbeats 0
namespace K12
open VM Law
open L2 (atI ixN)
section
variable {a b : Int} {t : Tm} {ns : List Int}
def env5 (ns : List Int) (t : Tm) (o7 : Option SV) : Env := [some (.dat (.scr ns)), some (.cel 0), some (.dat t.d), some (.cel 1), some (.cel 2), some (.cel 3), some (.cel 4), o7, none, none]
def sto5 (a b : Int) (t : Tm) (E : Sto) : Sto := potC a b :: cL (rowsL t) :: cL (pathL t) :: cL (pathL t) :: cL (namL t) :: E
theorem law_f (g : Good t) : sIf (bOr (bCmp (opCmp .NotEq) (eCb fRepr (evs [eV 5])) (eCb fRepr (evs [eV 4]))) (bCmp (opCmp .NotEq) (eCb fRepr (evs [eV 6])) (eCb fRepr (evs [eCall 31 (evs [eV 3])])))) (sRet (eC (.bl false))) (sPass) (VM.run T 99) (env5 ns t none) (sto5 a b t []) = .ok (.nx (env5 ns t none)) (sto5 a b t []) := by
  have e := l_vars (n := 97) (μ := sto5 a b t []) (k := 1) g rfl
  rw [show 97 + 2 = 99 from rfl] at e
  obtain ⟨x, r1⟩ := repr_of (shw_S g) (by decide) (by decide)
  obtain ⟨y, r2⟩ := repr_of (shw_V g).1 (by decide) (by decide)
  have s2 : (EV.cel 2).see (sto5 a b t []) = some (.lst (pathL t)) := rfl
  have s3 : (EV.cel 3).see (sto5 a b t []) = some (.lst (pathL t)) := rfl
  have s4 : (EV.cel 4).see (sto5 a b t []) = some (.lst (namL t)) := rfl
  have r1 : fRepr [.lst (pathL t)] = some (.dat (.str x)) := r1
  have r2 : fRepr [.lst (namL t)] = some (.dat (.str y)) := r2
  have e : VM.run T 99 31 [.cel 1] (sto5 a b t []) = .ok (.new (.lst (namL t))) (sto5 a b t []) := e
  generalize sto5 a b t [] = μ at e s2 s3 s4 ⊢
  generalize VM.run T 99 = F at e ⊢
  simp [env5, s2, s3, s4, r1, r2, e, ne_str]
theorem law_g (g : Good t) : sIf (bCmp (opCmp .NotEq) (eCb fRepr (evs [eLst (evs [eCallK 19 (evs []) (evs [eV 2]) [0], eCallK 20 (evs []) (evs [eV 2]) [0]])])) (eCb fRepr (evs [eLst (evs [eCb bLen (evs [eV 3]), eCall 30 (evs [eV 2])])]))) (sRet (eC (.bl false))) (sPass) (VM.run T 99) (env5 ns t none) (sto5 a b t []) = .ok (.nx (env5 ns t none)) (sto5 a b t []) := by
  have e1 := s_nodes (n := 93) (μ := sto5 a b t []) g
  have e2 := s_depth (n := 93) (μ := sto5 a b t []) g
  have gd := g.dp
  have gz := g.sz
  have e3 := l_depth (μ := sto5 a b t []) t (99 - dep t) (by omega)
  rw [show 93 + 6 = 99 from rfl] at e1 e2
  rw [show 99 - dep t + dep t = 99 by omega] at e3
  rw [pcs_len] at e1
  obtain ⟨x, r1⟩ := repr_of (shw_two (a := sz t) (b := dep t) (by omega) (by omega)) (by decide) (by decide)
  have s1 : (EV.cel 1).see (sto5 a b t []) = some (.lst (rowsL t)) := rfl
  have bl : bLen [.lst (rowsL t)] = some (.dat (.int (sz t : Nat))) := by
    show some (EV.dat (.int (((pre [] t).map encQ).length : Nat))) = _
    rw [List.length_map, pre_len]
  generalize sto5 a b t [] = μ at e1 e2 e3 s1 ⊢
  generalize VM.run T 99 = F at e1 e2 e3 ⊢
  generalize ((sz t : Nat) : Int) = z at e1 r1 bl
  generalize ((dep t : Nat) : Int) = y at e2 e3 r1
  simp [env5, s1, r1, bl, e1, e2, e3, ne_str]
def fltQ (t : Tm) : List (List Nat × Tm) := (pre [] t).filter fun q => !isR q.2
theorem fltQ_mem {q : List Nat × Tm} (h : q ∈ fltQ t) : sub t q.1 = some q.2 ∧ isR q.2 = false := by
  simp only [fltQ, List.mem_filter] at h
  obtain ⟨r, e1, e2⟩ := pre_sub [] t q.1 q.2 h.1
  simp only [List.nil_append] at e1
  exact ⟨by rw [e1]; exact e2, by simpa using h.2⟩
theorem fltQ_len (g : Good t) : 0 < (fltQ t).length ∧ (fltQ t).length ≤ 450 := by
  have h1 := List.length_filter_le (fun q : List Nat × Tm => !isR q.2) (pre [] t)
  have h2 := pre_len [] t
  have h3 := g.sz
  have h4 := (perm_pre [] t g.nr).length_eq
  have h5 := (paths_len t).1
  rw [List.length_map, (sortL_perm _).length_eq, List.length_map, h4, nrs, List.length_map] at h5
  exact ⟨h5, by simp only [fltQ]; omega⟩
/-- the parts drawn: a value, or a new cell -/
def Part (sv : SV) (E : Sto) (Q : List (List Nat × Tm)) : Prop := (sv = .dat (.lst (Q.map encQ)) ∧ E = []) ∨ (sv = .cel 5 ∧ E = [cL (Q.map encQ)])
theorem law_h (g : Good t) : ∃ (sv : SV) (E : Sto) (c d : Int) (Q : List (List Nat × Tm)), sSet 7 (eCall 32 (evs [eV 1, eLc (iOf (eV 3)) (.tup [.nm 8, .nm 9]) (bNot (bTru (eCall 28 (evs [eV 9])))) (eTup (evs [eV 8, eV 9])) [8, 9], eC (.int 7)])) (VM.run T 99) (env5 ns t none) (sto5 a b t []) = .ok (.nx (env5 ns t (some sv))) (sto5 c d t E) ∧ Part sv E Q ∧ (∀ q ∈ Q, sub t q.1 = some q.2 ∧ isR q.2 = false) ∧ Q.length ≤ 7 := by
  have gz := g.sz
  have hl := pre_len [] t
  have lc := lc_rows (S := .cell 1) (Q := pre [] t) (f := fun q => encQ q) (c := fun q => !isR q.2) (μ := sto5 a b t []) (step := lcStep (VM.run T 99) (.tup [.nm 8, .nm 9]) (bNot (bTru (eCall 28 (evs [eV 9])))) (eTup (evs [eV 8, eV 9])) (env5 ns t none)) rfl (fun q _ => by
    have e := l_isRest (n := 98) (μ := sto5 a b t []) q.2
    rw [show 98 + 1 = 99 from rfl] at e
    simp only [x_step, encQ, env5]
    cases c : isR q.2 <;> rw [c] at e <;> simp [asg, asgs, e]) (by omega)
  obtain ⟨z0, z1⟩ := fltQ_len g
  have hp : PotAt (sto5 a b t []) 0 := ⟨a, b, rfl⟩
  obtain ⟨v, s, μ', e3, ⟨c, d, rfl⟩, sm, sl, sv⟩ := s_some (n := 97) hp ((fltQ t).map fun q => encQ q) 7 (by rw [List.length_map]; exact z0) (by omega)
  rw [show 97 + 2 = 99 from rfl, show ((7 : Nat) : Int) = 7 from rfl] at e3
  obtain ⟨Q, rfl, hQ⟩ := encs (P := fun q => q ∈ fltQ t) (s := s) fun d hd => by
    obtain ⟨q, hq, rfl⟩ := List.mem_map.mp (sm d hd)
    exact ⟨q, hq, rfl⟩
  have lm : ((fltQ t).map fun q => encQ q).length ≤ LIM := by rw [List.length_map]; exact lim1 (by omega)
  have so : srcOf (.cel 1) (sto5 a b t []) = some (.cell 1) := rfl
  have le : (Src.cell 1).len (sto5 a b t []) = (pre [] t).length := len1
  have we : wipeE (env5 ns t none) [8, 9] = env5 ns t none := rfl
  have lc : lcLoop (.cell 1) (lcStep (VM.run T 99) (.tup [.nm 8, .nm 9]) (bNot (bTru (eCall 28 (evs [eV 9])))) (eTup (evs [eV 8, eV 9])) (env5 ns t none)) ((pre [] t).length + 1) 0 (sto5 a b t []) = .ok ((fltQ t).map fun q => encQ q) (sto5 a b t []) := lc
  have st : (sto5 a b t []).set 0 (potC c d) = sto5 c d t [] := rfl
  rw [st] at e3
  have hh : ∀ q ∈ Q, sub t q.1 = some q.2 ∧ isR q.2 = false := fun q hq => fltQ_mem (hQ q hq)
  have ql : Q.length ≤ 7 := by rw [List.length_map] at sl; exact sl
  have ev : eCall 32 (evs [eV 1, eLc (iOf (eV 3)) (.tup [.nm 8, .nm 9]) (bNot (bTru (eCall 28 (evs [eV 9])))) (eTup (evs [eV 8, eV 9])) [8, 9], eC (.int 7)]) (VM.run T 99) (env5 ns t none) (sto5 a b t []) = .ok v (sto5 c d t []) := by
    have v1 : (env5 ns t none)[1]? = some (some (.cel 0)) := rfl
    have v3 : (env5 ns t none)[3]? = some (some (.cel 1)) := rfl
    generalize sto5 a b t [] = μ at lc so le e3 ⊢
    generalize VM.run T 99 = F at lc e3 ⊢
    generalize ((fltQ t).map fun q => encQ q) = L at lc lm e3
    generalize env5 ns t none = ρ at lc we v1 v3 ⊢
    simp [v1, v3, so, le, we, lc, lm, e3]
  rw [xs_set, ev]
  rcases sv with rfl | rfl
  · exact ⟨.dat (.lst (Q.map encQ)), [], c, d, Q, rfl, .inl ⟨rfl, rfl⟩, hh, ql⟩
  · exact ⟨.cel 5, [cL (Q.map encQ)], c, d, Q, rfl, .inr ⟨rfl, rfl⟩, hh, ql⟩
end
end K12
set_option maxHeartbeats 0
namespace K12
open VM Law
open L2 (atI ixN)
section
variable {a b : Int} {t : Tm} {ns : List Int} {sv : SV} {E : Sto} {Q : List (List Nat × Tm)}
theorem part_src (h : Part sv E Q) : ∃ S, srcOf sv.ev (sto5 a b t E) = some S ∧ S.at (sto5 a b t E) = some (Q.map encQ) ∧ S.len (sto5 a b t E) = Q.length := by
  rcases h with ⟨rfl, rfl⟩ | ⟨rfl, rfl⟩
  · exact ⟨.vals (Q.map encQ), rfl, rfl, by show (Q.map encQ).length = _; rw [List.length_map]⟩
  · exact ⟨.cell 5, rfl, rfl, by show (Q.map encQ).length = _; rw [List.length_map]⟩
theorem law_i (g : Good t) (h : Part sv E Q) (hQ : ∀ q ∈ Q, sub t q.1 = some q.2 ∧ isR q.2 = false) (hl : Q.length ≤ 7) : sIf (bCmp (opCmp .NotEq) (eCb fRepr (evs [eLc (iOf (eV 7)) (.tup [.nm 8, .nm 9]) (bYes) (eCall 22 (evs [eV 2, eV 8])) [8, 9]])) (eCb fRepr (evs [eLc (iOf (eV 7)) (.tup [.nm 8, .nm 9]) (bYes) (eV 9) [8, 9]]))) (sRet (eC (.bl false))) (sPass) (VM.run T 99) (env5 ns t (some sv)) (sto5 a b t E) = .ok (.nx (env5 ns t (some sv))) (sto5 a b t E) := by
  obtain ⟨S, so, sa, le⟩ := part_src (a := a) (b := b) (t := t) h
  have gd := g.dp
  have gz := g.sz
  have ft : (Q.filter fun _ => true) = Q := List.filter_eq_self.mpr fun _ _ => rfl
  have lc1 := lc_rows (S := S) (Q := Q) (f := fun q => q.2.d) (c := fun q => true) (μ := sto5 a b t E) (step := lcStep (VM.run T 99) (.tup [.nm 8, .nm 9]) bYes (eCall 22 (evs [eV 2, eV 8])) (env5 ns t (some sv))) sa (fun q hq => by
    have e := s_partAt (n := 93) (μ := sto5 a b t E) g (hQ q hq).1 (hQ q hq).2
    rw [show 93 + 6 = 99 from rfl] at e
    simp only [x_step, encQ, env5]
    simp [asg, asgs, e]) (by omega)
  have lc2 := lc_rows (S := S) (Q := Q) (f := fun q => q.2.d) (c := fun q => true) (μ := sto5 a b t E) (step := lcStep (VM.run T 99) (.tup [.nm 8, .nm 9]) bYes (eV 9) (env5 ns t (some sv))) sa (fun q hq => by
    simp only [x_step, encQ, env5]
    simp [asg, asgs]) (by omega)
  rw [ft] at lc1 lc2
  have sh : Shws (Q.map fun q => q.2.d) 50 (18000 * (Q.map fun q => q.2.d).length) := shws_all fun d hd => by
    obtain ⟨q, hq, rfl⟩ := List.mem_map.mp hd
    obtain ⟨h1, h2, h3⟩ := sub_good q.1 t q.2 (hQ q hq).1 g.ok
    exact (shw_tm q.2 h1).mono (by omega) (by omega)
  rw [List.length_map] at sh
  obtain ⟨x, r1⟩ := repr_of sh.lst (by decide) (by omega)
  have lm : (Q.map fun q => q.2.d).length ≤ LIM := by rw [List.length_map]; exact lim1 (by omega)
  have v7 : (env5 ns t (some sv))[7]? = some (some sv) := rfl
  have we : wipeE (env5 ns t (some sv)) [8, 9] = env5 ns t (some sv) := rfl
  generalize sto5 a b t E = μ at so le lc1 lc2 ⊢
  generalize VM.run T 99 = F at lc1 lc2 ⊢
  generalize (Q.map fun q => q.2.d) = L at lc1 lc2 lm r1
  generalize env5 ns t (some sv) = ρ at v7 we lc1 lc2 ⊢
  simp [v7, so, le, we, lc1, lc2, lm, r1, ne_str]
def sto6 (a b : Int) (t : Tm) (E : Sto) : Sto := potC a b :: cL (rowsL t) :: cL (pathL t) :: cL (pathL t ++ [.non]) :: cL (namL t ++ [.non]) :: E
theorem law_j (g : Good t) {o7 : Option SV} : sDrop (eCM aAppend (eV 5) (evs [eC .non])) (VM.run T 99) (env5 ns t o7) (sto5 a b t E) = .ok (.nx (env5 ns t o7)) (potC a b :: cL (rowsL t) :: cL (pathL t) :: cL (pathL t ++ [.non]) :: cL (namL t) :: E) ∧
    sDrop (eCM aAppend (eV 6) (evs [eC .non])) (VM.run T 99) (env5 ns t o7) (potC a b :: cL (rowsL t) :: cL (pathL t) :: cL (pathL t ++ [.non]) :: cL (namL t) :: E) = .ok (.nx (env5 ns t o7)) (sto6 a b t E) := by
  have gz := g.sz
  have h1 : (pathL t).length < LIM := lim2 (by have := (paths_len t).2; simp only [pathL]; omega)
  have h2 : (namL t).length < LIM := lim2 (by have := (shw_V g).2.2; simp only [namL]; omega)
  constructor
  · simp [env5, sto5, cL, aAppend_c h1]
  · simp [env5, sto6, cL, aAppend_c h2]
theorem law_k (g : Good t) {o7 : Option SV} : sIf (bOr (bCmp (opCmp .NotEq) (eCall 21 (evs [eV 2])) (eV 4)) (bCmp (opCmp .NotEq) (eCall 18 (evs [eV 2])) (eCall 31 (evs [eV 3])))) (sRet (eC (.bl false))) (sPass) (VM.run T 99) (env5 ns t o7) (sto6 a b t E) = .ok (.nx (env5 ns t o7)) (sto6 a b t E) := by
  have e1 := s_paths (n := 93) (μ := sto6 a b t E) g
  have e2 := s_variables (n := 93) (μ := sto6 a b t E) g
  have e3 := l_vars (n := 97) (μ := sto6 a b t E) (k := 1) g rfl
  rw [show 93 + 6 = 99 from rfl] at e1 e2
  rw [show 97 + 2 = 99 from rfl] at e3
  have n1 := ne_self (fits_S g)
  have n2 := ne_self (shw_V g).2.1
  have s2 : (EV.cel 2).see (sto6 a b t E) = some (.lst (pathL t)) := rfl
  have s2 : (EV.cel 2).see (sto6 a b t E) = some (.lst ((sortL ((allQ [] t).map iP)).map ofTup)) := s2
  generalize sto6 a b t E = μ at e1 e2 e3 s2 ⊢
  generalize VM.run T 99 = F at e1 e2 e3 ⊢
  generalize ((sortL ((allQ [] t).map iP)).map ofTup) = L at e1 n1 s2
  generalize uq [] (stD t) = M at e2 e3 n2
  simp [env5, e1, e2, e3, n1, n2, s2]
theorem law_l (g : Good t) {o7 : Option SV} : ∃ μ', sRet (eCall 33 (evs [eV 1, eV 2, eIx (eV 4) (eBin .Mod (eCall 24 (evs [eV 1, eC (.int 211)])) (eCb bLen (evs [eV 4])))])) (VM.run T 99) (env5 ns t o7) (sto6 a b t E) = .ok (.rt (.dat (.bl true))) μ' := by
  have hp : PotAt (sto6 a b t E) 0 := ⟨a, b, rfl⟩
  obtain ⟨w, μ1, hw, ⟨c, d, rfl⟩, e1⟩ := s_draw (n := 98) hp 211 (by decide) (by decide)
  rw [show 98 + 1 = 99 from rfl] at e1
  have st : (sto6 a b t E).set 0 (potC c d) = sto6 c d t E := rfl
  rw [st] at e1
  obtain ⟨z0, z1⟩ := paths_len t
  have z0 : 0 < (pathL t).length := z0
  have hi : w % (pathL t).length < (pathL t).length := Nat.mod_lt _ z0
  have md := mod_lt (d := w) z0
  have ix := ix_lst hi
  obtain ⟨q, u, hq, h1, h2⟩ := paths_mem g.nr (List.getElem_mem hi)
  rw [hq] at ix
  have hp2 : PotAt (sto6 c d t E) 0 := ⟨c, d, rfl⟩
  obtain ⟨μ', e2, _⟩ := s_within (n := 92) hp2 g h1 h2
  rw [show 92 + 7 = 99 from rfl] at e2
  refine ⟨μ', ?_⟩
  have bl : bLen [.lst (pathL t)] = some (.dat (.int (pathL t).length)) := rfl
  have s2 : (EV.cel 2).see (sto6 a b t E) = some (.lst (pathL t)) := rfl
  have s3 : (EV.cel 2).see (sto6 c d t E) = some (.lst (pathL t)) := rfl
  generalize sto6 a b t E = μa at e1 s2 ⊢
  generalize sto6 c d t E = μb at e1 e2 s3 ⊢
  generalize VM.run T 99 = F at e1 e2 ⊢
  generalize ((w % (pathL t).length : Nat) : Int) = y at md ix
  generalize (((pathL t).length : Nat) : Int) = z at md bl
  simp [env5, e1, e2, s2, s3, bl, md, ix]
end
end K12
namespace Law
open VM K12
theorem law_runs (ns : List Int) (h : ns.length ≤ 63) : ∃ μ, VM.run T depth 34 [.dat (.scr ns)] [] = .ok (.dat (.bl true)) μ := by
  obtain ⟨a, b, ea⟩ := law_a h
  obtain ⟨t, c, d, eb, g⟩ := law_b (ns := ns) (a := a) (b := b)
  have ec := law_c (ns := ns) (a := c) (b := d) g
  have ed := law_d (ns := ns) (a := c) (b := d) g
  have ee := law_e (ns := ns) (a := c) (b := d) g
  have ef := law_f (ns := ns) (a := c) (b := d) g
  have eg := law_g (ns := ns) (a := c) (b := d) g
  obtain ⟨sv, E, x, y, Q, eh, hP, hQ, hl⟩ := law_h (ns := ns) (a := c) (b := d) g
  have ei := law_i (ns := ns) (a := x) (b := y) g hP hQ hl
  obtain ⟨ej, ej'⟩ := law_j (ns := ns) (a := x) (b := y) (E := E) g (o7 := some sv)
  have ek := law_k (ns := ns) (a := x) (b := y) (E := E) g (o7 := some sv)
  obtain ⟨μ', el⟩ := law_l (ns := ns) (a := x) (b := y) (E := E) g (o7 := some sv)
  have ee := ee.trans (show Res.ok (SO.nx [some (.dat (.scr ns)), some (.cel 0), some (.dat t.d), some (.cel 1), some (.cel 2), some (.cel 3), some (.cel 4), none, none, none]) [potC c d, cL (rowsL t), cL (pathL t), cL (pathL t), cL (namL t)] = Res.ok (SO.nx (env5 ns t none)) (sto5 c d t []) from rfl)
  refine ⟨μ'.take 0, ?_⟩
  rw [show (depth : Nat) = 99 + 1 from rfl, run_at (nl := 10) (b := P_law) (by rfl)]
  unfold P_law
  rw [xs_seq, ea]
  simp only
  rw [xs_seq, eb]
  simp only
  rw [xs_seq, ec]
  simp only
  rw [xs_seq, ed]
  simp only
  rw [xs_seq, ee]
  simp only
  rw [xs_seq, ef]
  simp only
  rw [xs_seq, eg]
  simp only
  rw [xs_seq, eh]
  simp only
  rw [xs_seq, ei]
  simp only
  rw [xs_seq, ej]
  simp only
  rw [xs_seq, ej']
  simp only
  rw [xs_seq, ek]
  simp only
  rw [el]
  rfl
end Law
open PySem PySem.W PyProof.Rows
set_option maxRecDepth 100000 in
set_option maxHeartbeats 0 in
theorem PySem.Challenge.cw_nearestpattern_k12_whole_parts_of_terms_holds : PySem.Challenge.rw_nearestpattern_k12_whole_parts_of_terms.Holds := by
  w_on; o_law; k_head; (case hw => w_witness2)
  k_fill
  refine Law.walk (l := PySem.Challenge.rw_nearestpattern_k12_whole_parts_of_terms) rfl rfl Law.law_runs (fun w h Y => PySem.W.kIn_of Y) ?F
  case F =>
    intro w mg fa h KX G hmg
    refine' Law.all_mk KX G hmg ?a_is_integer ?l_is_integer ?e_is_integer ?k_is_integer ?a_is_count ?l_is_count ?e_is_count ?k_is_count ?a_is_name ?l_is_name ?e_is_name ?k_is_name ?a_is_variable ?l_is_variable ?e_is_variable ?k_is_variable ?a_is_head ?l_is_head ?e_is_head ?k_is_head ?a_is_rest ?l_is_rest ?e_is_rest ?k_is_rest ?a_is_applied ?l_is_applied ?e_is_applied ?k_is_applied ?a_standings ?l_standings ?e_standings ?k_standings ?a_have_one_sort ?l_have_one_sort ?e_have_one_sort ?k_have_one_sort ?a_pieces ?l_pieces ?e_pieces ?k_pieces ?a_variables_of ?l_variables_of ?e_variables_of ?k_variables_of ?a_nodes_of ?l_nodes_of ?e_nodes_of ?k_nodes_of ?a_depth_of ?l_depth_of ?e_depth_of ?k_depth_of ?a_paths_of ?l_paths_of ?e_paths_of ?k_paths_of ?a_part_of ?l_part_of ?e_part_of ?k_part_of ?a_is_path_of ?l_is_path_of ?e_is_path_of ?k_is_path_of ?a_is_term ?l_is_term ?e_is_term ?k_is_term ?a_want_term ?l_want_term ?e_want_term ?k_want_term ?a_variables ?l_variables ?e_variables ?k_variables ?a_nodes ?l_nodes ?e_nodes ?k_nodes ?a_depth ?l_depth ?e_depth ?k_depth ?a_paths ?l_paths ?e_paths ?k_paths ?a_part_at ?l_part_at ?e_part_at ?k_part_at ?a__law_pot ?l__law_pot ?e__law_pot ?k__law_pot ?a__law_draw ?l__law_draw ?e__law_draw ?k__law_draw ?a__law_pick ?l__law_pick ?e__law_pick ?k__law_pick ?a__law_term ?l__law_term ?e__law_term ?k__law_term ?a__law_great ?l__law_great ?e__law_great ?k__law_great ?a__law_is_rest ?l__law_is_rest ?e__law_is_rest ?k__law_is_rest ?a__law_rows ?l__law_rows ?e__law_rows ?k__law_rows ?a__law_depth ?l__law_depth ?e__law_depth ?k__law_depth ?a__law_variables ?l__law_variables ?e__law_variables ?k__law_variables ?a__law_some ?l__law_some ?e__law_some ?k__law_some ?a__law_within_right ?l__law_within_right ?e__law_within_right ?k__law_within_right ?a_law ?l_law ?e_law ?k_law ?z_abs ?z_all ?z_bool ?z_divmod ?z_enumerate ?z_int ?z_isinstance ?z_len ?z_max ?z_range ?z_repr ?z_sorted ?z_str ?z_tuple ?c_DIGITS ?c_GREAT ?c_HEAD ?c_MOST_DIGITS ?c_MOST_SIGNS ?c_REST ?c_SMALL ?c_TERM
    (case a_is_integer => k_is)
    (case l_is_integer => k_is)
    (case e_is_integer => k_is)
    (case k_is_integer => k_is)
    (case a_is_count => k_is)
    (case l_is_count => k_is)
    (case e_is_count => k_is)
    (case k_is_count => k_is)
    (case a_is_name => k_is)
    (case l_is_name => k_is)
    (case e_is_name => k_is)
    (case k_is_name => k_is)
    (case a_is_variable => k_is)
    (case l_is_variable => k_is)
    (case e_is_variable => k_is)
    (case k_is_variable => k_is)
    (case a_is_head => k_is)
    (case l_is_head => k_is)
    (case e_is_head => k_is)
    (case k_is_head => k_is)
    (case a_is_rest => k_is)
    (case l_is_rest => k_is)
    (case e_is_rest => k_is)
    (case k_is_rest => k_is)
    (case a_is_applied => k_is)
    (case l_is_applied => k_is)
    (case e_is_applied => k_is)
    (case k_is_applied => k_is)
    (case a_standings => k_is)
    (case l_standings => k_is)
    (case e_standings => k_is)
    (case k_standings => k_is)
    (case a_have_one_sort => k_is)
    (case l_have_one_sort => k_is)
    (case e_have_one_sort => k_is)
    (case k_have_one_sort => k_is)
    (case a_pieces => k_is)
    (case l_pieces => k_is)
    (case e_pieces => k_is)
    (case k_pieces => k_is)
    (case a_variables_of => k_is)
    (case l_variables_of => k_is)
    (case e_variables_of => k_is)
    (case k_variables_of => k_is)
    (case a_nodes_of => k_is)
    (case l_nodes_of => k_is)
    (case e_nodes_of => k_is)
    (case k_nodes_of => k_is)
    (case a_depth_of => k_is)
    (case l_depth_of => k_is)
    (case e_depth_of => k_is)
    (case k_depth_of => k_is)
    (case a_paths_of => k_is)
    (case l_paths_of => k_is)
    (case e_paths_of => k_is)
    (case k_paths_of => k_is)
    (case a_part_of => k_is)
    (case l_part_of => k_is)
    (case e_part_of => k_is)
    (case k_part_of => k_is)
    (case a_is_path_of => k_is)
    (case l_is_path_of => k_is)
    (case e_is_path_of => k_is)
    (case k_is_path_of => k_is)
    (case a_is_term => k_is)
    (case l_is_term => k_is)
    (case e_is_term => k_is)
    (case k_is_term => k_is)
    (case a_want_term => k_is)
    (case l_want_term => k_is)
    (case e_want_term => k_is)
    (case k_want_term => k_is)
    (case a_variables => k_is)
    (case l_variables => k_is)
    (case e_variables => k_is)
    (case k_variables => k_is)
    (case a_nodes => k_is)
    (case l_nodes => k_is)
    (case e_nodes => k_is)
    (case k_nodes => k_is)
    (case a_depth => k_is)
    (case l_depth => k_is)
    (case e_depth => k_is)
    (case k_depth => k_is)
    (case a_paths => k_is)
    (case l_paths => k_is)
    (case e_paths => k_is)
    (case k_paths => k_is)
    (case a_part_at => k_is)
    (case l_part_at => k_is)
    (case e_part_at => k_is)
    (case k_part_at => k_is)
    (case a__law_pot => k_is)
    (case l__law_pot => k_is)
    (case e__law_pot => k_is)
    (case k__law_pot => k_is)
    (case a__law_draw => k_is)
    (case l__law_draw => k_is)
    (case e__law_draw => k_is)
    (case k__law_draw => k_is)
    (case a__law_pick => k_is)
    (case l__law_pick => k_is)
    (case e__law_pick => k_is)
    (case k__law_pick => k_is)
    (case a__law_term => k_is)
    (case l__law_term => k_is)
    (case e__law_term => k_is)
    (case k__law_term => k_is)
    (case a__law_great => k_is)
    (case l__law_great => k_is)
    (case e__law_great => k_is)
    (case k__law_great => k_is)
    (case a__law_is_rest => k_is)
    (case l__law_is_rest => k_is)
    (case e__law_is_rest => k_is)
    (case k__law_is_rest => k_is)
    (case a__law_rows => k_is)
    (case l__law_rows => k_is)
    (case e__law_rows => k_is)
    (case k__law_rows => k_is)
    (case a__law_depth => k_is)
    (case l__law_depth => k_is)
    (case e__law_depth => k_is)
    (case k__law_depth => k_is)
    (case a__law_variables => k_is)
    (case l__law_variables => k_is)
    (case e__law_variables => k_is)
    (case k__law_variables => k_is)
    (case a__law_some => k_is)
    (case l__law_some => k_is)
    (case e__law_some => k_is)
    (case k__law_some => k_is)
    (case a__law_within_right => k_is)
    (case l__law_within_right => k_is)
    (case e__law_within_right => k_is)
    (case k__law_within_right => k_is)
    (case a_law => k_is)
    (case l_law => k_is)
    (case e_law => k_is)
    (case k_law => k_is)
    (case z_abs => k_is)
    (case z_all => k_is)
    (case z_bool => k_is)
    (case z_divmod => k_is)
    (case z_enumerate => k_is)
    (case z_int => k_is)
    (case z_isinstance => k_is)
    (case z_len => k_is)
    (case z_max => k_is)
    (case z_range => k_is)
    (case z_repr => k_is)
    (case z_sorted => k_is)
    (case z_str => k_is)
    (case z_tuple => k_is)
    (case c_DIGITS => k_is)
    (case c_GREAT => k_is)
    (case c_HEAD => k_is)
    (case c_MOST_DIGITS => k_is)
    (case c_MOST_SIGNS => k_is)
    (case c_REST => k_is)
    (case c_SMALL => k_is)
    (case c_TERM => k_is)
